import Derived.Test.YtlfhmmbmjkadiaaGreatDoorKg0
import Derived.Test.YtlfhmmbmjkadiaaGreatDoorOg1
import Derived.Test.YtlfhmmbmjkadiaaGreatDoorOg2
import Derived.Test.YtlfhmmbmjkadiaaGreatDoorAm5
import Derived.KernelRfl
set_option linter.all false
section
namespace Go.Ab
open Go
set_option maxRecDepth 100000
noncomputable section
theorem UZ {n:Nat}(xs ys:List Int)(lo len:Nat)(hl:lo+len≤xs.length)(h:len<1000):evFn lay0.tab (n+1002) 48 [.arr 0 lo len 1,.p (.slice 1 (ys.map iE))] [.arr (xs.map iE)]=some (.p (.bool (decide ((xs.drop lo).take len=ys))),[.arr (xs.map iE)]):=by
 apply VC (n+1001) (xs.map iE) lo len (ys.map iE);have hzl:((xs.drop lo).take len).length=len:=by simp;omega
 simp only[zp,lβ,aV,cq];by_cases he:len=ys.length
 ·rw[if_pos (by omega)];have hl2:((xs.drop lo).take len).length=ys.length:=by omega
  refine(aX (((xs.drop lo).take len).zip ys) (fun q i=>nU _ (n+1001) _ _ q (lo,len,ys.map iE,(len:Int),i,xs.map iE)) (fun t=>!aB t.1 t.2) (fun i=>some (.p (.bool false),[.arr (xs.map iE)])) (some (.p (.bool true),[.arr (xs.map iE)])) (fun q i hi=>?_) (fun q=>?_) (by simp only[mι];omega)).trans ?_
  ·simp only[mι]at hi;rw[wO];have hg:(xs.map iE)[lo+i]?=some (iE (((xs.drop lo).take len)[i]'(by omega))):=by
    rw[lχ,lγ (by omega)];simp
   simp only[kY,cT (show((i:Int)<(len:Int)) by omega),aP,bJ,show(0:Int)≤(i:Int) by omega,decide_true,Int.toNat_natCast,hg,aE,aH,aG (show i<ys.length by omega),be,dI,wS (show i<cb by unfold cb;omega),List.getElem_zip];exact de _ _ _
  ·rw[wO];simp only[kY,mι,hzl,←he,Nat.min_self,bY,aS]
  ·have key:=ny aB hl2 aV;cases hf:(((xs.drop lo).take len).zip ys).findIdx? (fun t=>!aB t.1 t.2)with
   |none=>simp only[key.1 hf,decide_true]
   |some j=>
    have:¬(xs.drop lo).take len=ys:=fun e=>by rw[key.2 e]at hf;cases hf
    simp only[this,decide_false]
 ·rw[if_neg (by omega)];have:¬(xs.drop lo).take len=ys:=fun e=>he (by rw[←e];omega)
  simp only[this,decide_false]
theorem zS {n:Nat}(h:n≤1000):dM n 8=true:=by
 unfold dM;rw[lδ,Nat.ble_eq,Nat.ble_eq];omega
theorem Iu {n:Nat}(ns:List No)(hkl:∀x∈ns,x.kids.length<1000)(hl:ns.length<1000)(k0:LD×aF→R)(k1:fI→R)(hk0:∀a b,k0 (a,b)=some (.p (.bool false),[]))(hk1:∀a b c d e,k1 (a,b,c,d,e)=some (.p (.bool (decide (a=1))),[])):∀(e q i:Nat) (roots:List Int),i+e=ns.length→e<q→roots.length≤i→
  L_spostOrder_1 (bv lay0.tab (n+1002)) (n+1002) k0 k1 q (roots.length,ns.map No.e,(ns.length:Int),(i:Int),roots.map iE)=some (.p (.bool (eJ (ns.drop i) i roots)),[])
 |0,q+1,i,roots,h,_,_=>by
  obtain rfl:i=ns.length:=by omega
  rw[rp];simp only[fV,bY,aS,List.drop_length,eJ,hk1]
 |e+1,q+1,i,roots,h,hq,hr=>by
  have hi:i<ns.length:=by omega
  have hx:ns[i]∈ns:=lι _;have hkx:=hkl _ hx;rw[rp,lμ hi];have hw:aj .i64 ((roots.length:Int) - ((ns[i].kids.map iE).length:Int))=(roots.length:Int) - (ns[i].kids.length:Int):=by
   rw[lβ,jT (by omega) (by omega)]
  simp only[fV,cT (show((i:Int)<(ns.length:Int)) by omega),aP,aE,aH,aG hi,be,sI,pR,hw,eJ];by_cases hlt:roots.length<ns[i].kids.length
  ·rw[if_pos hlt,cT (by omega),aP,hk0]
  ·rw[if_neg hlt,Bq (by omega),aS];have ht:((roots.length:Int) - (ns[i].kids.length:Int)).toNat=roots.length - ns[i].kids.length:=by omega
   have happ:roots.map iE=roots.map iE:=rfl;have hm:List.take (roots.length - ns[i].kids.length - 0) (roots.map iE)++[Da.int .i64 (i:Int)]=(roots.take (roots.length - ns[i].kids.length)++[(i:Int)]).map iE:=by
    rw[List.map_append,List.map_take];rfl
   have hb:dM ((List.take (roots.length - ns[i].kids.length - 0) (roots.map iE)).length+[Da.int .i64 (i:Int)].length) 8=true:=zS (by simp;omega);have hv:=aa (UZ (n:=n) roots ns[i].kids (roots.length - ns[i].kids.length) (roots.length - (roots.length - ns[i].kids.length)) (by omega) (by omega));have hz:=aa (Di (n:=n) [] ns[i].kids (by simp));have hdr:(roots.drop (roots.length - ns[i].kids.length)).take (roots.length - (roots.length - ns[i].kids.length))=roots.drop (roots.length - ns[i].kids.length):=by
    rw[mκ (by simp)]
   rw[hdr]at hv;simp only[List.map_nil]at hz;have hrec:=Iu (n:=n) ns hkl hl k0 k1 hk0 hk1 e q (i+1) (roots.take (roots.length - ns[i].kids.length)++[(i:Int)]) (by omega) (by omega) (by simp;omega);simp only[bJ,show(0:Int)≤(roots.length:Int) - (ns[i].kids.length:Int) by omega,show(roots.length:Int) - (ns[i].kids.length:Int)≤(roots.length:Int) by omega,decide_true,aP,ht,Nat.zero_add,hv,hz,hb,hm,lβ,ba,aC,bp,hk0,wS (show i<cb by unfold cb;omega),hrec,Yx,dt];by_cases hd:roots.drop (roots.length - ns[i].kids.length)=ns[i].kids
   ·rw[if_pos hd];by_cases h0:roots.length - ns[i].kids.length=roots.length
    ·have hk:([]:List Int)=ns[i].kids:=by rw[←hd,h0,List.drop_length]
     rw[if_pos h0,if_pos hk];simp only[hd,if_true];cases Nat.blt 0 roots.length<;>rfl
    ·rw[if_neg h0,if_pos hd]
   ·rw[if_neg hd];by_cases h0:roots.length - ns[i].kids.length=roots.length
    ·have hk:¬([]:List Int)=ns[i].kids:=fun e=>hd (by rw[←e];simp)
     rw[if_pos h0,if_neg hk];simp only[hd,if_false];cases Nat.blt 0 roots.length<;>rfl
    ·rw[if_neg h0,if_neg hd]
theorem IW {n:Nat}(ns:List No)(hkl:∀x∈ns,x.kids.length<1000)(hl:ns.length<1000):evFn lay0.tab (n+1003) 176 [.p (.slice 8 (ns.map No.e))] []=some (.p (.bool (eJ ns 0 [])),[]):=by
 apply JI (n+1002) (ns.map No.e);unfold qo;rw[lβ];refine(Iu (n:=n) ns hkl hl _ _ (fun _ _=>rfl) (fun a b c d e=>?_) ns.length (n+1002) 0 [] (by omega) (by omega) (by simp)).trans rfl;show iL (aB (a:Int) 1) _ _=_;rw[bE,dW,aV];congr 4;rw[decide_eq_decide];omega
theorem ub {b:Nat}:∀(r:List No) (i:Nat) (roots:List Int),i+r.length=b→eN i roots→eJ r i roots=true→∀x∈r,eN b x.kids
 |[],_,_,_,_,_,x,hx=>by cases hx
 |y::r,i,roots,hb,hr,h,x,hx=>by
  simp only[eJ]at h;split at h
  ·cases h
  ·split at h
   ·rename_i hlen hdrop;simp only[List.length_cons]at hb;rcases mζ.1 hx with rfl|hx
    ·intro k hk;rw[←hdrop]at hk;obtain⟨g1,g2⟩:=hr k (mπ hk);exact⟨g1,by omega⟩
    ·refine ub r (i+1) _ (by omega) ?_ h x hx;intro k hk;rcases mσ.1 hk with hk|hk
     ·obtain⟨g1,g2⟩:=hr k (mω hk);exact⟨g1,by omega⟩
     ·simp only[List.mem_singleton]at hk;subst hk;omega
   ·cases h
structure SzN (x:No):Prop where
 iv:x.v.I.length<1000
 lv:x.v.L.length<1000
 ks:x.kids.length<1000
def iM (ns:List No):Bool:=eJ ns 0 []&&(aB (cK ns ((ns.length - 1:Nat):Int)) 18&&((ns.all fun x=>cm ns x&&dX x)&&bx (xJ ns) 24))
theorem TU {ns:List No}{l:List Int}(h:eN ns.length l):∀k∈l,∃y,eG ns k=some y:=by
 intro k hk;obtain⟨g1,g2⟩:=h k hk;obtain⟨j,rfl⟩:∃j:Nat,k=(j:Int):=⟨k.toNat,by omega⟩
 exact⟨_,aG (by omega)⟩
theorem IZ {n:Nat}(ns:List No)(hs:∀x∈ns,SzN x)(hl:ns.length<1000):evFn lay0.tab (n+1008) 126 [.p (.slice 8 (ns.map No.e))] []=some (.p (.bool (iM ns)),[]):=by
 apply JL (n+1007) (ns.map No.e);unfold qq iM;simp only[aa (IW (n:=n+4) ns (fun x hx=>(hs x hx).ks) hl),ba,aC,aA];cases hp:eJ ns 0 []with
 |false=>rfl
 |true=>
  obtain⟨k,hsub,hk1⟩:=uc ns 0 [] rfl (Nat.zero_le _) .nil hp;have hkk:=ub (b:=ns.length) ns 0 [] (by omega) (fun k hk=>by cases hk) hp;have hw:aj .i64 (((ns.map No.e).length:Int) - 1)=((ns.length - 1:Nat):Int):=by rw[lβ,jT (by omega) (by omega)];omega
  have hlt:ns.length - 1<ns.length:=by omega
  simp only[hw,aP,aE,aH,aG hlt,be,sI,rL,cK,Option.map_some,Option.getD_some,Bool.true_and];cases aB ns[ns.length - 1].op 18 with
  |false=>rfl
  |true=>
   simp only[Bool.not_true,aS,Bool.true_and,lβ];refine(aX ns (fun q i=>jl _ (n+1007) _ _ q (ns.map No.e,ns.map No.e,(ns.length:Int),i)) (fun x=>!(cm ns x&&dX x)) (fun i=>some (.p (.bool false),[])) (some (.p (.bool (bx (xJ ns) 24)),[])) (fun q i hi=>?_) (fun q=>?_) (by omega)).trans ?_
   ·rw[rq];have hx:ns[i]∈ns:=lι _;have sx:=hs _ hx;have e1:=aa (abK (n:=n+3) ns ns[i] (TU (hkk _ hx)) sx.ks);have e2:=aa (Mt (n:=n+1) ns[i] sx.iv sx.lv);simp only[No.e]at e1 e2;simp only[fW,cT (show((i:Int)<(ns.length:Int)) by omega),aP,aE,aH,aG hi,be,sI,wS (show i<cb by unfold cb;omega),e1,e2,ba,aC,aA];cases cm ns ns[i]<;>cases dX ns[i]<;>rfl
   ·rw[rq];simp only[fW,bY,aS,aa (U2 (n:=n+5) ns (by omega) hkk (fun x hx=>(hs x hx).ks) hl),ba,bz,aA,bE,dW]
   ·rw[eQ];cases ns.findIdx? fun x=>!(cm ns x&&dX x)<;>rfl
def f1 (f:Fe):Bool:=cU f.name&&(hO f.kind&&(aB f.init.k f.kind&&(Mg f.init&&(!aB f.init.n (-9223372036854775808)&&!f.init.I.any fun x=>aB (-9223372036854775808) x))))
structure SzF (f:Fe):Prop where
 iv:f.init.I.length<1000
 lv:f.init.L.length<1000
theorem Gn {n:Nat}(f:Fe)(h:SzF f):evFn lay0.tab (n+1006) 124 [.p f.e] []=some (.p (.bool (f1 f)),[]):=by
 apply GF (n+1005) f.r;have h1:=aa (mo (n:=n) f.name);have h2:=aa (tG (n:=n+1004) f.kind);have h3:=aa (Mu (n:=n+3) f.init h.lv);have h4:=aa (Xt (n:=n+2) f.init.I (-9223372036854775808) h.iv);simp only[Va.c]at h3;simp only[oO,show f.r.Name=f.name from rfl,show f.r.Kind=f.kind from rfl,show f.r.Init_Kind=f.init.k from rfl,show f.r.Init_N=f.init.n from rfl,show f.r.Init_S=f.init.s from rfl,show f.r.Init_I=f.init.I.map iE from rfl,show f.r.Init_L=f.init.L.map .str from rfl,h1,h2,h3,h4,ba,aC,aA,bE,acx,gu,ahA,Bool.not_not,Bool.and_true,f1]
def uN (m:Me):Bool:=cU m.name&&(!aU 4 (m.params.length:Int)&&((!(!aB m.result 0)||hO m.result)&&m.params.all fun p=>cU p.name&&hO p.kind))
theorem Dj {n:Nat}(m:Me)(hp:m.params.length<1000):evFn lay0.tab (n+1006) 125 [.p m.e] []=some (.p (.bool (uN m)),[]):=by
 apply Eg (n+1005) m.r;have h1:=aa (mo (n:=n) m.name);have h2:=aa (tG (n:=n+1004) m.result);have hl:dD (bv lay0.tab (n+1005)) (n+1005) (fun u22=>some (.p (.bool false),[])) (fun(l23,i24,i25)=>some (.p (.bool true),[])) (n+1005) (m.params.map Pa.e,(m.params.length:Int),0)=some (.p (.bool (m.params.all fun p=>cU p.name&&hO p.kind)),[]):=by
  refine(aX m.params (fun q i=>dD _ (n+1005) _ _ q (m.params.map Pa.e,(m.params.length:Int),i)) (fun p=>!(cU p.name&&hO p.kind)) (fun i=>some (.p (.bool false),[])) (some (.p (.bool true),[])) (fun q i hi=>?_) (fun q=>?_) (by omega)).trans ?_
  ·rw[od];simp only[eo,cT (show((i:Int)<(m.params.length:Int)) by omega),aP,aE,aH,aG hi,be,ZH,show ∀p:Pa,p.r.Name=p.name from fun _=>rfl,show ∀p:Pa,p.r.Kind=p.kind from fun _=>rfl,wS (show i<cb by unfold cb;omega),aa (mo (n:=n) m.params[i].name),aa (tG (n:=n+1004) m.params[i].kind),ba,aC,aA];cases cU m.params[i].name<;>cases hO m.params[i].kind<;>rfl
  ·rw[od];simp only[eo,bY,aS]
  ·rw[eQ];cases m.params.findIdx? fun p=>!(cU p.name&&hO p.kind)<;>rfl
 simp only[mC,show m.r.Name=m.name from rfl,show m.r.Params=m.params.map Pa.e from rfl,show m.r.Result=m.result from rfl,lβ,hl,h1,h2,ba,aC,aA,uN];cases cU m.name<;>cases aU 4 (m.params.length:Int)<;>cases aB m.result 0<;>cases hO m.result<;>rfl
structure ahy (m:Me):Prop where
 ps:m.params.length<1000
 ns:m.nodes.length<1000
 nx:∀x∈m.nodes,SzN x
structure SzA (a:Ac):Prop where
 fl:a.fields.length<1000
 me:a.methods.length<1000
 ff:∀f∈a.fields,SzF f
 mm:∀m∈a.methods,ahy m
theorem Xs {n:Nat}(fs:List Fe)(h:fs.length<1000)(hf:∀f∈fs,SzF f):evFn lay0.tab (n+1009) 122 [.p (.slice 7 (fs.map Fe.e)),.p (.fn 123 [])] []=some (.p (.bool (fs.any fun f=>!f1 f)),[]):=by
 have h1:∀f∈fs,evFn lay0.tab (n+1007) 123 [.p f.e] []=some (.p (.bool (!f1 f)),[]):=by
  intro f hm;apply VF (n+1006) f.r;have:=aa (Gn (n:=n) f (hf f hm));simp only[Fe.e]at this;simp only[zt,this,ba,aC,aA,bE,acx]
 have hi:evFn lay0.tab (n+1008) 100 [.p (.slice 7 (fs.map Fe.e)),.p (.fn 123 [])] []=some (.p (.int .i64 (lI (fs.findIdx? fun f=>!f1 f))),[]):=by
  apply ab1 (n+1007) (fs.map Fe.e);unfold Je;rw[lβ];refine(aX fs (fun q i=>tQ _ (n+1007) _ _ q (fs.map Fe.e,(fs.length:Int),i)) (fun f=>!f1 f) (fun i=>some (.p (.int .i64 i),[])) (some (.p (.int .i64 (-1)),[])) (fun q i hi=>?_) (fun q=>?_) (by omega)).trans ?_
  ·rw[D8];have:=aa (h1 fs[i] (lι _));simp only[Fe.e]at this;simp only[pE,cT (show((i:Int)<(fs.length:Int)) by omega),aP,aE,aH,aG hi,be,dFe,wS (show i<cb by unfold cb;omega),this,ba,aC,bp];exact de _ _ _
  ·rw[D8];simp only[pE,bY,aS]
  ·cases fs.findIdx? fun f=>!f1 f<;>rfl
 apply XS (n+1008) (fs.map Fe.e);unfold Dv;simp only[aa hi,ba,bz,aA];rw[←List.findIdx?_isSome];cases fs.findIdx? fun f=>!f1 f with
 |none=>rfl
 |some j=>simp[lI,bJ,aP]
def AB:List Me→Int→Option Int
 |[],t=>some t
 |m::r,t=>bif aU 1500 (aj .i64 (t+(m.nodes.length:Int)))then none else bif uN m&&iM m.nodes then AB r (aj .i64 (t+(m.nodes.length:Int)))else none
def Yl (a:Ac):Bool:=cU a.name&&(!aU 8 (a.fields.length:Int)&&(!aU 16 (a.methods.length:Int)&&!a.fields.any fun f=>!f1 f))
def CA:List Ac→Int→Option Int
 |[],t=>some t
 |a::r,t=>bif Yl a then(match AB a.methods t with|none=>none|some t=>CA r t)else none
def cN (p:List Ac):Bool:=!aU 8 (p.length:Int)&&(CA p 0).isSome
theorem UI {n:Nat}(a b:Int)(l:LD)(ml:List Me)(hm:∀m∈ml,ahy m)(hl:ml.length<1000)(k0:ah→R)(k1:mF→R)(Z:R)(hk0:∀a,k0 a=Z):∀(e q j:Nat) (t:Int),j+e=ml.length→e<q→
  L_sValid_2 (bv lay0.tab (n+1009)) (n+1009) k0 k1 q (t,l,a,b,ml.map Me.e,(ml.length:Int),(j:Int))=match AB (ml.drop j) t with|none=>Z|some t=>k1 (t,l,a,b,ml.map Me.e,(ml.length:Int),(ml.length:Int))
 |0,q+1,j,t,h,_=>by
  obtain rfl:j=ml.length:=by omega
  rw[A6];simp only[mP,bY,aS,List.drop_length,AB]
 |e+1,q+1,j,t,h,hq=>by
  have hj:j<ml.length:=by omega
  have hx:=hm ml[j] (lι _);have e1:=aa (Dj (n:=n+3) ml[j] hx.ps);have e2:=aa (IZ (n:=n+1) ml[j].nodes hx.nx hx.ns);simp only[Me.e]at e1;rw[A6,lμ hj];simp only[mP,cT (show((j:Int)<(ml.length:Int)) by omega),aP,aE,aH,aG hj,be,NK,wS (show j<cb by unfold cb;omega),e1,show ml[j].r.Nodes=ml[j].nodes.map No.e from rfl,lβ,e2,ba,aC,aA,hk0,AB];cases aU 1500 (aj .i64 (t+(ml[j].nodes.length:Int)))
  ·cases uN ml[j]
   ·rfl
   ·cases iM ml[j].nodes
    ·rfl
    ·exact UI a b l ml hm hl k0 k1 Z hk0 e q (j+1) _ (by omega) (by omega)
  ·rfl
theorem UJ {n:Nat}(p:List Ac)(hp:∀a∈p,SzA a)(hl:p.length<1000)(k0:af→R)(k1:ah→R)(k2:mE→R)(Z:R)(hk0:∀a,k0 a=Z)(hk1:∀a,k1 a=Z)(W:R)(hk2:∀a b c d,k2 (a,b,c,d)=W):∀(e q j:Nat) (t:Int),j+e=p.length→e<q→
  L_sValid_1 (bv lay0.tab (n+1009)) (n+1009) k0 k1 k2 q (t,p.map Ac.e,(p.length:Int),(j:Int))=match CA (p.drop j) t with|none=>Z|some _=>W
 |0,q+1,j,t,h,_=>by
  obtain rfl:j=p.length:=by omega
  rw[A5];simp only[mN,bY,aS,List.drop_length,CA,hk2]
 |e+1,q+1,j,t,h,hq=>by
  have hj:j<p.length:=by omega
  have hx:=hp p[j] (lι _);have e1:=aa (mo (n:=n+4) p[j].name);have e2:=aa (Xs (n:=n) p[j].fields hx.fl hx.ff);rw[A5,lμ hj];have hmet:=fun kk=>UI (n:=n) (p.length:Int) (j:Int) (p.map Ac.e) p[j].methods hx.mm hx.me (fun u32=>k1 u32) kk Z hk1 p[j].methods.length (n+1009) 0 t (by omega) (by have:=hx.me;omega)
  simp only[show((0:Nat):Int)=0 from rfl,List.drop_zero]at hmet;simp only[mN,cT (show((j:Int)<(p.length:Int)) by omega),aP,aE,aH,aG hj,be,HQ,show p[j].r.Name=p[j].name from rfl,show p[j].r.Fields=p[j].fields.map Fe.e from rfl,show p[j].r.Methods=p[j].methods.map Me.e from rfl,lβ,wS (show j<cb by unfold cb;omega),e1,e2,ba,aC,aA,bp,hk0,hmet,CA,Yl];cases cU p[j].name
  ·rfl
  cases aU 8 (p[j].fields.length:Int)
  ·cases aU 16 (p[j].methods.length:Int)
   ·cases p[j].fields.any fun f=>!f1 f
    ·simp only[aP,aS,Bool.not_false,Bool.true_and,cond_true];cases AB p[j].methods t with
     |none=>rfl
     |some t'=>exact UJ p hp hl k0 k1 k2 Z hk0 hk1 W hk2 e q (j+1) _ (by omega) (by omega)
    ·rfl
   ·rfl
  ·rfl
theorem Xx {n:Nat}(p:List Ac)(hp:∀a∈p,SzA a)(hl:p.length<1000):evFn lay0.tab (n+1010) 84 [.p (.agg [.slice 3 (p.map Ac.e)])] []=some (.p (.bool (cN p)),[]):=by
 apply XY (n+1009) ⟨p.map Ac.e⟩;unfold DB cN;simp only[lβ];cases aU 8 (p.length:Int)
 ·refine(UJ (n:=n) p hp hl _ _ _ (some (.p (.bool false),[])) (fun _=>rfl) (fun _=>rfl) (some (.p (.bool true),[])) (fun _ _ _ _=>rfl) p.length (n+1009) 0 0 (by omega) (by omega)).trans ?_;rw[List.drop_zero];cases CA p 0<;>rfl
 ·rfl
theorem Tk {ns:List No}(h:iM ns=true):zc ns:=by
 unfold iM at h;simp only[lδ,mη]at h;obtain⟨hp,_,hall,_⟩:=h;have hkk:=ub (b:=ns.length) ns 0 [] (by omega) (fun k hk=>by cases hk) hp;have hc:∀x∈ns,cm ns x=true:=fun x hx=>(hall x hx).1
 refine⟨uc ns 0 [] rfl (Nat.zero_le _) .nil hp,fun x hx=>⟨fun ho=>?_,fun ho=>?_⟩,fun x hx ho k hk y hy=>?_⟩
 ·have:=hc x hx;rcases ho with h|h|h|h|h|h|h<;>(unfold cm at this;rw[h]at this;simp only[aV,ep,Og,bJ,lδ,lη,Int.reduceEq,decide_false,decide_true,cond_true,cond_false]at this;omega)
 ·have:=hc x hx;unfold cm at this;rw[ho]at this;simp only[aV,ep,Og,bJ,lδ,lη,Int.reduceEq,decide_false,decide_true,cond_true,cond_false]at this;omega
 ·have:=hc x hx;have ha:dL ns x 0 sW=true:=by
   rcases ho with h|h<;>(unfold cm at this;rw[h]at this;simp only[aV,lδ,Int.reduceEq,decide_false,decide_true,cond_true,cond_false]at this;exact this.2)
  unfold dL at ha;rw[List.drop_zero,mη]at ha;have:=ha k hk;unfold cK at this;rw[hy]at this;simp only[Option.map_some,Option.getD_some,sW,ed,zW,bJ,aV,qδ,lδ,lη]at this;omega
theorem aaO:∀(ml:List Me) (t t':Int),AB ml t=some t'→∀m∈ml,iM m.nodes=true∧uN m=true
 |[],_,_,_,m,hm=>by cases hm
 |x::r,t,t',h,m,hm=>by
  simp only[AB]at h;cases h1:aU 1500 (aj .i64 (t+(x.nodes.length:Int)))with
  |true=>rw[h1]at h;simp at h
  |false=>
   cases h2:uN x&&iM x.nodes with
   |false=>rw[h1,h2]at h;simp at h
   |true=>
    rw[h1,h2]at h;simp only[cond_true,cond_false]at h;rcases mζ.1 hm with rfl|hm
    ·rw[lδ]at h2;exact⟨h2.2,h2.1⟩
    ·exact aaO r _ _ h m hm
theorem SS:∀(p:List Ac) (t t':Int),CA p t=some t'→∀a∈p,Yl a=true∧∀m∈a.methods,iM m.nodes=true∧uN m=true
 |[],_,_,_,a,ha=>by cases ha
 |x::r,t,t',h,a,ha=>by
  simp only[CA]at h;cases h1:Yl x with
  |false=>rw[h1]at h;simp at h
  |true=>
   rw[h1]at h;simp only[cond_true]at h;cases h2:AB x.methods t with
   |none=>rw[h2]at h;cases h
   |some t1=>
    rw[h2]at h;rcases mζ.1 ha with rfl|ha
    ·exact⟨h1,aaO _ _ _ h2⟩
    ·exact SS r _ _ h a ha
theorem Gg {p:List Ac}(h:cN p=true):p.length≤8∧∀a∈p,∀m∈a.methods,zc m.nodes∧m.params.length≤4:=by
 unfold cN at h;simp only[lδ,Bool.not_eq_true',iR,mγ]at h;obtain⟨h1,h2⟩:=h;refine⟨by omega,fun a ha m hm=>?_⟩
 obtain⟨t,ht⟩:=Option.isSome_iff_exists.1 h2;obtain⟨g1,g2⟩:=(SS p 0 t ht a ha).2 m hm;refine⟨Tk g1,?_⟩;unfold uN at g2;simp only[lδ,Bool.not_eq_true',iR,mγ]at g2;omega
end
end Go.Ab
end
section
namespace Go.Ab
open Go
set_option maxRecDepth 100000
noncomputable section
theorem Qn {n:Nat}(a b:Ac):evFn lay0.tab (n+1) 85 [.p a.e,.box 0 0] [b.r.b]=some (.p (.bool (decide (a.name=b.name))),[b.r.b]):=by
 apply QW n a.r b.r;unfold vg;show iL (aO a.name b.name) _ _=_;rw[dB];cases decide (a.name=b.name)<;>rfl
theorem Qo {n:Nat}(a b:Me):evFn lay0.tab (n+1) 87 [.p a.e,.box 0 0] [b.r.b]=some (.p (.bool (decide (a.name=b.name))),[b.r.b]):=by
 apply QX n a.r b.r;unfold vh;show iL (aO a.name b.name) _ _=_;rw[dB];cases decide (a.name=b.name)<;>rfl
theorem ae6 (o:Option Nat):bx 0 (lI o)=o.isSome:=by cases o<;>simp[lI,bJ]
theorem Xw {n:Nat}(ts:List Ac)(y:Ac)(h:ts.length<1000):evFn lay0.tab (n+1003) 46 [.p (.slice 3 (ts.map Ac.e)),.fn 85 [.box 0 0]] [y.r.b]=some (.p (.bool (ts.any fun t=>decide (t.name=y.name))),[y.r.b]):=by
 have hi:evFn lay0.tab (n+1002) 81 [.p (.slice 3 (ts.map Ac.e)),.fn 85 [.box 0 0]] [y.r.b]=some (.p (.int .i64 (lI (ts.findIdx? fun t=>decide (t.name=y.name)))),[y.r.b]):=by
  apply Rc (n+1001) (ts.map Ac.e) y.r;unfold vu;rw[lβ];refine(aX ts (fun q i=>lV _ (n+1001) _ _ q (ts.map Ac.e,(ts.length:Int),i,y.r)) (fun t=>decide (t.name=y.name)) (fun i=>some (.p (.int .i64 i),[y.r.b])) (some (.p (.int .i64 (-1)),[y.r.b])) (fun q i hi=>?_) (fun q=>?_) (by omega)).trans ?_
  ·rw[uG];simp only[jA,cT (show((i:Int)<(ts.length:Int)) by omega),aP,aE,aH,aG hi,be,HQ,wS (show i<cb by unfold cb;omega)];have:=Qn (n:=n+1000) ts[i] y;simp only[Ac.e]at this;simp only[aa this,ba,aC,bp];exact de _ _ _
  ·rw[uG];simp only[jA,bY,aS]
  ·cases ts.findIdx? fun t=>decide (t.name=y.name)<;>rfl
 apply XW (n+1002) (ts.map Ac.e) y.r;unfold Dz;simp only[aa hi,ba,bz,bp,ae6];rw[List.findIdx?_isSome];cases ts.any (fun t=>decide (t.name=y.name))<;>rfl
theorem Xu {n:Nat}(ts:List Me)(y:Me)(h:ts.length<1000):evFn lay0.tab (n+1003) 86 [.p (.slice 4 (ts.map Me.e)),.fn 87 [.box 0 0]] [y.r.b]=some (.p (.bool (ts.any fun t=>decide (t.name=y.name))),[y.r.b]):=by
 have hi:evFn lay0.tab (n+1002) 90 [.p (.slice 4 (ts.map Me.e)),.fn 87 [.box 0 0]] [y.r.b]=some (.p (.int .i64 (lI (ts.findIdx? fun t=>decide (t.name=y.name)))),[y.r.b]):=by
  apply Rb (n+1001) (ts.map Me.e) y.r;unfold vt;rw[lβ];refine(aX ts (fun q i=>lU _ (n+1001) _ _ q (ts.map Me.e,(ts.length:Int),i,y.r)) (fun t=>decide (t.name=y.name)) (fun i=>some (.p (.int .i64 i),[y.r.b])) (some (.p (.int .i64 (-1)),[y.r.b])) (fun q i hi=>?_) (fun q=>?_) (by omega)).trans ?_
  ·rw[uF];simp only[jz,cT (show((i:Int)<(ts.length:Int)) by omega),aP,aE,aH,aG hi,be,NK,wS (show i<cb by unfold cb;omega)];have:=Qo (n:=n+1000) ts[i] y;simp only[Me.e]at this;simp only[aa this,ba,aC,bp];exact de _ _ _
  ·rw[uF];simp only[jz,bY,aS]
  ·cases ts.findIdx? fun t=>decide (t.name=y.name)<;>rfl
 apply XU (n+1002) (ts.map Me.e) y.r;unfold Dx;simp only[aa hi,ba,bz,bp,ae6];rw[List.findIdx?_isSome];cases ts.any (fun t=>decide (t.name=y.name))<;>rfl
def xA:List (List Nat×Vr)→List Fe→Nat→Option (List (List Nat×Vr))
 |acc,[],_=>some acc
 |acc,x::r,k=>match cY acc x.name with
  |some _=>none
  |none=>xA (nC acc x.name ⟨x.kind,k,true⟩) r (k+1)
inductive An where
 |bad (t m n e:Int)
 |good (bs:List (List CS))
def qT (f:Nat)(p:List Ac)(fs:List (List Nat×Vr))(i:Nat)(all:List Me):List Me→Nat→List CS→Option (An ⊕ List CS)
 |[],_,acc=>some (.inr acc)
 |m::r,j,acc=>if((all.take j).any fun x=>decide (x.name=m.name))=true then some (.inl (.bad i j (-1) 7))else match iw f p fs m with
  |none=>none
  |some none=>some (.inl (.bad i j (-1) 7))
  |some (some c)=>if c.er=0 then qT f p fs i all r (j+1) (acc++[c])else some (.inl (.bad i j c.nd c.er))
def tD (f:Nat)(p:List Ac):List Ac→Nat→List (List CS)→Option An
 |[],_,acc=>some (.good acc)
 |a::r,j,acc=>if((p.take j).any fun x=>decide (x.name=a.name))=true then some (.bad j (-1) (-1) 7)else match xA [] a.fields 0 with
  |none=>some (.bad j (-1) (-1) 7)
  |some fs=>match qT f p fs j a.methods a.methods 0 []with
   |none=>none
   |some (.inl e)=>some e
   |some (.inr b)=>tD f p r (j+1) (acc++[b])
def plD (t m n:Int):Da:= .agg [.int .i64 t,.int .i64 m,.int .i64 n]
def fw (p:List Ac)(bs:List (List CS)):lR:=⟨p.map Ac.e,bs.length,bs.map fun l=> .slice 3 (l.map cI)⟩
def VV (p:List Ac):An→R
 | .bad t m n e=>some (.tup [.p .nilptr,.p (plD t m n),.p (.int .i64 e)],[])
 | .good bs=>some (.tup [.box 0 0,.p (plD 0 0 0),.p (.int .i64 0)],(fw p bs).hp)
theorem N9 {m:Nat}(ti tl:Int)(ty:LD)(fl:List Fe)(P:ab)(I:lR)(A:af)(k0:ab×Int×lR×af×LD×LD×bW×bD→R)(k1:Int×LD×Int×Int×LD×Int×Int×Bool×ab×lR×af×LD×LD→R)(Z:R)(hk0:∀a b c d,k0 (P,ti,I,A,a,b,c,d)=Z)(hl:fl.length<1000):∀(e q j:Nat) (acc:List (List Nat×Vr)),j+e=fl.length→e<q→
  L_Analyze_2 (bv lay0.tab m) m k0 k1 q (ti,ty,tl,ti,fl.map Fe.e,(fl.length:Int),(j:Int),P,I,A,acc.map (fun p=> .str p.1),acc.map (fun p=>p.2.e))=match xA acc (fl.drop j) j with
   |none=>Z
   |some fs=>k1 (ti,ty,tl,ti,fl.map Fe.e,(fl.length:Int),(fl.length:Int),false,P,I,A,fs.map (fun p=> .str p.1),fs.map (fun p=>p.2.e))
 |0,q+1,j,acc,h,_=>by
  obtain rfl:j=fl.length:=by omega
  rw[wG];simp only[kP,bY,aS,List.drop_length,xA]
 |e+1,q+1,j,acc,h,hq=>by
  have hj:j<fl.length:=by omega
  rw[wG,lμ hj];have hn:fl[j].r.Name=fl[j].name:=rfl;have hkd:fl[j].r.Kind=fl[j].kind:=rfl;simp only[kP,cT (show((j:Int)<(fl.length:Int)) by omega),aP,aE,aH,aG hj,be,dFe,wS (show j<cb by unfold cb;omega),hn,hkd,xA];rw[lkS];cases hg:cY acc fl[j].name with
  |some v=>simp only[R6,dVr,hk0]
  |none=>
   simp only[aaL];refine Eq.trans (upS acc fl[j].name Vr.e ⟨fl[j].kind,(j:Int),true⟩ fun a b=>L_Analyze_2 (bv lay0.tab m) m k0 k1 q (ti,ty,tl,ti,fl.map Fe.e,(fl.length:Int),((j+1:Nat):Int),P,I,A,a,b)) ?_
   exact N9 ti tl ty fl P I A k0 k1 Z hk0 hl e q (j+1) _ (by omega) (by omega)
structure SzM (m:Me):Prop where
 ns:m.nodes.length<1000
 ks:∀x∈m.nodes,x.kids.length<1000
 ps:m.params.length<1000
structure SzP (p:List Ac):Prop where
 ty:p.length<1000
 me:∀a∈p,a.methods.length<1000
 fl:∀a∈p,a.fields.length<1000
 mm:∀a∈p,∀m∈a.methods,SzM m
theorem OS {f n:Nat}(p:List Ac)(hp:SzP p)(ti:Nat)(tl:Int)(ty:LD)(a:Ac)(ha:a∈p)(fs:List (List Nat×Vr))(I:lR)(k0:ab×Int×Int×lR×af×LD×ah→R)(k1:Int×ab×aK×lR×af×LD×ah×dJ→R)(k2:Int×LD×LD×Nat×LD×Int×Int×LD×Int×Int×Bool×ab×lR×af×LD→R)
  (hk0:∀a b c d e f g,k0 (a,b,c,d,e,f,g)=VV p (.bad b c (-1) 7)) (hk1:∀a b c d e f g h,k1 (a,b,c,d,e,f,g,h)=VV p (.bad c.Type_ c.Method c.Node a)):∀(e q j:Nat) (acc:List CS) (o:An ⊕ List CS),j+e=a.methods.length→e<q→acc.length≤j→qT f p fs ti a.methods (a.methods.drop j) j acc=some o→
  L_Analyze_3 (bv lay0.tab (n+3*f+3001)) (n+3*f+3001) k0 k1 k2 q ((ti:Int),fs.map (fun p=> .str p.1),fs.map (fun p=>p.2.e),acc.length,ty,tl,(ti:Int),a.methods.map Me.e,(a.methods.length:Int),(j:Int),⟨p.map Ac.e⟩,I,a.r,acc.map cI)=match o with
   | .inl e=>VV p e
   | .inr l=>k2 ((ti:Int),fs.map (fun p=> .str p.1),fs.map (fun p=>p.2.e),l.length,ty,tl,(ti:Int),a.methods.map Me.e,(a.methods.length:Int),(a.methods.length:Int),false,⟨p.map Ac.e⟩,I,a.r,l.map cI)
 |0,q+1,j,acc,o,h,_,hac,hm=>by
  obtain rfl:j=a.methods.length:=by omega
  rw[List.drop_length]at hm;simp only[qT,lα]at hm;subst hm;rw[wH];simp only[kQ,bY,aS]
 |e+1,q+1,j,acc,o,h,hq,hac,hm=>by
  have hj:j<a.methods.length:=by omega
  have hml:=hp.me a ha;rw[lμ hj]at hm;simp only[qT]at hm;rw[wH];have hlm:(List.length a.r.Methods:Int)=a.methods.length:=by show((a.methods.map Me.e).length:Int)=_;rw[lβ]
  have htk:List.take (Int.toNat (j:Int) - 0) (List.drop 0 a.r.Methods)=(a.methods.take j).map Me.e:=by
   rw[List.drop_zero,Nat.sub_zero,Int.toNat_natCast,List.map_take];rfl
  simp only[kQ,cT (show((j:Int)<(a.methods.length:Int)) by omega),aP,aE,aH,aG hj,be,NK,wS (show j<cb by unfold cb;omega),bJ,hlm,show(0:Int)≤(j:Int) by omega,decide_true,show(j:Int)≤(a.methods.length:Int) by omega,htk];obtain⟨n1,hn1⟩:∃n1,n+3*f+3001=n1+1003:=⟨n+3*f+1998,by omega⟩
  have hc:=Xu (n:=n1) (a.methods.take j) a.methods[j] (by simp;omega);rw[←hn1]at hc;simp only[aa hc,ba,aC,bp];cases hd:(a.methods.take j).any fun x=>decide (x.name=a.methods[j].name)
  ·rw[hd]at hm;simp only[Bool.false_eq_true,if_false]at hm;rw[aS];have sm:=hp.mm a ha _ (lι hj);have run:∀o1,iw f p fs a.methods[j]=some o1→evFn lay0.tab (n+3*f+3001) 88 [.p (ab.e ⟨p.map Ac.e⟩),.p (.map (fs.map fun p=> .str p.1) (fs.map fun p=>p.2.e)),.p a.methods[j].r.e] []=some (Wd o1,[]):=fun o1 h1=>abF p fs a.methods[j] o1 h1 hp.ty hp.me sm.ns sm.ks sm.ps
   cases hck:iw f p fs a.methods[j]with
   |none=>rw[hck]at hm;cases hm
   |some o1=>
    rw[hck]at hm;rw[aa (run o1 hck)];cases o1 with
    |none=>
     simp only[lα]at hm;subst hm;exact hk1 7 ⟨p.map Ac.e⟩ ⟨ti,j,-1⟩ I a.r (acc.map cI) a.methods[j].r ⟨[],.nilmap,.nilmap⟩
    |some c=>
     simp only at hm;show iL (!aB c.er 0) _ _=_;rw[aV,cq];by_cases h0:c.er=0
     ·rw[if_pos h0]at hm ⊢
      have hb1:Nat.beq acc.length (acc.map cI).length=true:=by simp
      have hb2:dM ((acc.map cI).length+[cI c].length) 40=true:=CI (by simp;omega) (by decide);have key:=OS (n:=n) p hp ti tl ty a ha fs I k0 k1 k2 hk0 hk1 e q (j+1) (acc++[c]) o (by omega) (by omega) (by simp;omega) hm;rw[←key];show iL (Nat.beq acc.length (acc.map cI).length) (iL (dM ((acc.map cI).length+[cI c].length) 40) _ _) _=_;rw[hb1,hb2,aP,aP];have hap:acc.map cI++[cI c]=(acc++[c]).map cI:=by simp
      show L_Analyze_3 _ _ k0 k1 k2 q (_,_,_,List.length (acc.map cI++[cI c]),_,_,_,_,_,_,_,_,_,acc.map cI++[cI c])=_;rw[hap,lβ]
     ·rw[if_neg h0]at hm ⊢
      simp only[lα]at hm;subst hm;exact hk1 c.er ⟨p.map Ac.e⟩ ⟨ti,j,c.nd⟩ I a.r (acc.map cI) a.methods[j].r _
  ·rw[hd]at hm;simp only[if_true,lα]at hm;subst hm;rw[aP,hk0]
theorem P9 {f n:Nat}(p:List Ac)(hp:SzP p)(k0:ab×Int×lR×af→R)(k1:ab×Int×lR×af×LD×LD×bW×bD→R)(k2:ab×Int×Int×lR×af×LD×ah→R)(k3:Int×ab×aK×lR×af×LD×ah×dJ→R)(k4:LD×Int×Int×Bool×ab×lR→R)
  (hk0:∀a b c d,k0 (a,b,c,d)=VV p (.bad b (-1) (-1) 7)) (hk1:∀a b c d e f g h,k1 (a,b,c,d,e,f,g,h)=VV p (.bad b (-1) (-1) 7)) (hk2:∀a b c d e f g,k2 (a,b,c,d,e,f,g)=VV p (.bad b c (-1) 7)) (hk3:∀a b c d e f g h,k3 (a,b,c,d,e,f,g,h)=VV p (.bad c.Type_ c.Method c.Node a)) (hk4:∀a b c d e bs,k4 (a,b,c,d,e,fw p bs)=VV p (.good bs)):
  ∀(e q j:Nat) (acc:List (List CS)) (o:An),j+e=p.length→e<q→acc.length≤j→tD f p (p.drop j) j acc=some o→
  L_Analyze_1 (bv lay0.tab (n+3*f+3001)) (n+3*f+3001) k0 k1 k2 k3 k4 q (p.map Ac.e,(p.length:Int),(j:Int),⟨p.map Ac.e⟩,fw p acc)=VV p o
 |0,q+1,j,acc,o,h,_,hac,ht=>by
  obtain rfl:j=p.length:=by omega
  rw[List.drop_length]at ht;simp only[tD,lα]at ht;subst ht;rw[wF];simp only[kO,bY,aS,hk4]
 |e+1,q+1,j,acc,o,h,hq,hac,ht=>by
  have hj:j<p.length:=by omega
  have hty:=hp.ty;rw[lμ hj]at ht;simp only[tD]at ht;rw[wF];have htk:List.take (Int.toNat (j:Int) - 0) (List.drop 0 (p.map Ac.e))=(p.take j).map Ac.e:=by
   rw[List.drop_zero,Nat.sub_zero,Int.toNat_natCast,List.map_take]
  simp only[kO,cT (show((j:Int)<(p.length:Int)) by omega),aP,aE,aH,aG hj,be,HQ,wS (show j<cb by unfold cb;omega),bJ,lβ,show(0:Int)≤(j:Int) by omega,decide_true,show(j:Int)≤(p.length:Int) by omega,htk];obtain⟨n1,hn1⟩:∃n1,n+3*f+3001=n1+1003:=⟨n+3*f+1998,by omega⟩
  have hc:=Xw (n:=n1) (p.take j) p[j] (by simp;omega);rw[←hn1]at hc;simp only[aa hc,ba,aC,bp];cases hd:(p.take j).any fun x=>decide (x.name=p[j].name)
  ·rw[hd]at ht;simp only[Bool.false_eq_true,if_false]at ht;rw[aS];have hmem:p[j]∈p:=lι hj;have fl:=fun(k0:ab×Int×lR×af×LD×LD×bW×bD→R) k1 Z (hkk:∀a b c d,k0 (⟨p.map Ac.e⟩,(j:Int),fw p acc,p[j].r,a,b,c,d)=Z)=>N9 (m:=n+3*f+3001) (j:Int) (p.length:Int) (p.map Ac.e) p[j].fields ⟨p.map Ac.e⟩ (fw p acc) p[j].r k0 k1 Z hkk (hp.fl _ hmem) p[j].fields.length (n+3*f+3001) 0 [] (by omega) (by have:=hp.fl _ hmem;omega)
   simp only[List.map_nil,List.drop_zero,show((0:Nat):Int)=0 from rfl]at fl;have hlf:(List.length p[j].r.Fields:Int)=p[j].fields.length:=by show((p[j].fields.map Fe.e).length:Int)=_;rw[lβ]
   rw[hlf];refine Eq.trans (fl _ _ (VV p (.bad j (-1) (-1) 7)) fun a b c d=>hk1 _ _ _ _ _ _ _ _) ?_
   cases hf:xA [] p[j].fields 0 with
   |none=>
    rw[hf]at ht;simp only[lα]at ht;subst ht;rfl
   |some fs=>
    rw[hf]at ht;simp only at ht;cases hm:qT f p fs j p[j].methods p[j].methods 0 []with
    |none=>rw[hm]at ht;cases ht
    |some om=>
     rw[hm]at ht;have ml:=fun k0 k1 k2 h0 h1=>OS (n:=n) p hp j (p.length:Int) (p.map Ac.e) p[j] hmem fs (fw p acc) k0 k1 k2 h0 h1 p[j].methods.length (n+3*f+3001) 0 [] om (by omega) (by have:=hp.me _ hmem;omega) (by simp) (by rw[List.drop_zero];exact hm)
     simp only[List.map_nil,List.length_nil,show((0:Nat):Int)=0 from rfl]at ml;have hlm:(List.length p[j].r.Methods:Int)=p[j].methods.length:=by show((p[j].methods.map Me.e).length:Int)=_;rw[lβ]
     simp only[hlm];refine Eq.trans (ml _ _ _ (fun a b c d e f g=>hk2 _ _ _ _ _ _ _) (fun a b c d e f g h=>hk3 _ _ _ _ _ _ _ _)) ?_;cases om with
     |inl e=>simp only[lα]at ht;subst ht;rfl
     |inr l=>
      simp only at ht;have key:=P9 (n:=n) p hp k0 k1 k2 k3 k4 hk0 hk1 hk2 hk3 hk4 e q (j+1) (acc++[l]) o (by omega) (by omega) (by simp;omega) ht;rw[←key];have htl:List.take l.length (List.drop 0 (l.map cI))=l.map cI:=by
       rw[List.drop_zero];have:=List.take_length (l:=l.map cI);rwa [lβ]at this
      have hb1:Nat.beq (fw p acc).bn (List.length (fw p acc).bs)=true:=by simp[fw]
      have hb2:dM (List.length (fw p acc).bs+[Da.slice 3 (l.map cI)].length) 24=true:=CI (by simp[fw];omega) (by decide);simp only[htl,hb1,hb2,aP];have hi:lR.mk (fw p acc).ty (List.length ((fw p acc).bs++[Da.slice 3 (l.map cI)])) ((fw p acc).bs++[Da.slice 3 (l.map cI)])=fw p (acc++[l]):=by
       simp[fw]
      rw[hi,wS (show j<cb by unfold cb;omega)]
  ·rw[hd]at ht;simp only[if_true,lα]at ht;subst ht;rw[aP,hk0]
theorem UN {f n:Nat}(p:List Ac)(hp:SzP p)(b:Bool)(o:An)(hv:evFn lay0.tab (n+3*f+3001) 84 [.p (.agg [.slice 3 (p.map Ac.e)])] []=some (.p (.bool b),[]))(ho:o= .bad 0 0 0 1∧b=false∨b=true∧tD f p p 0 []=some o):evFn lay0.tab (n+3*f+3002) 53 [.p (.agg [.slice 3 (p.map Ac.e)])] []=VV p o:=by
 have key:tH (bv lay0.tab (n+3*f+3001)) (n+3*f+3001) ⟨p.map Ac.e⟩=VV p o:=by
  unfold tH;have hv':evFn lay0.tab (n+3*f+3001) 84 [.p (ab.e ⟨p.map Ac.e⟩)] []=some (.p (.bool b),[]):=hv;simp only[aa hv',ba,aC,aA];rcases ho with⟨rfl,rfl⟩|⟨rfl,ht⟩
  ·rfl
  ·show L_Analyze_1 _ _ _ _ _ _ _ _ (p.map Ac.e,((p.map Ac.e).length:Int),0,⟨p.map Ac.e⟩,lR.mk (p.map Ac.e) 0 [])=_;rw[lβ];exact P9 (n:=n) p hp _ _ _ _ _ (fun a b c d=>rfl) (fun a b c d e f g h=>rfl) (fun a b c d e f g=>rfl) (fun a b c d e f g h=>rfl) (fun a b c d e bs=>rfl) p.length (n+3*f+3001) 0 [] o (by omega) (by have:=hp.ty;omega) (by simp) (by rw[List.drop_zero];exact ht)
 cases o with
 |bad t m n e=>exact HF _ ⟨p.map Ac.e⟩ _ key
 |good bs=>exact HF _ ⟨p.map Ac.e⟩ _ key
end
end Go.Ab
end
section
namespace Go.Ab
open Go
noncomputable section
def ext (q:List Ac)(c:CS):CS:={c with pr:=q}
theorem CM {c:CS}{i e:Int}(h:(iO c i e).er=0):c.er=0:=by
 unfold iO at h;split at h
 ·assumption
 ·exact h
theorem kD {c:CS}{i:Int}{b:Bool}(h:(cn c i b).er=0):c.er=0:=by
 unfold cn at h;split at h
 ·exact h
 ·exact CM h
theorem tF {c:CS}{i:Int}{b:Bool}(h:(cn c i b).er=0):b=true:=by
 unfold cn at h;split at h
 ·assumption
 ·unfold iO at h;split at h
  ·cases h
  ·contradiction
theorem im {c:CS}{i:Int}{b:Bool}(h:(cn c i b).er=0):cn c i b=c:=by
 rw[tF h];rfl
theorem ky {c:CS}{i e:Int}(he:e≠0):(iO c i e).er≠0:=by
 unfold iO;split
 ·exact he
 ·assumption
theorem SW {c:CS}{i:Int}{s:List Nat}(h:(mj c i s).2.er=0):c.er=0:=by
 unfold mj at h;split at h
 ·exact h
 ·exact CM h
theorem JY {c c':CS}{s:List Nat}{k:Int}(h:m5 c s k=some c'):c'.er=c.er:=by
 unfold m5 at h;split at h
 ·simp only[lα]at h;rw[←h]
 ·cases h
theorem adY {c:CS}{i:Int}{x:No}(h:(qR c i x).er=0):c.er=0:=by
 unfold qR at h;split at h
 ·exact CM h
 split at h
 ·exact CM h
 ·exact h
theorem ag1 {c c':CS}{i k:Int}{x:No}(h:xV c i x k=some c')(h0:c'.er=0):c.er=0:=by
 unfold xV at h;split at h
 ·rename_i c3 h3;simp only[lα]at h;subst h;have:=SW h0;rw[JY h3]at this;exact adY (kD this)
 ·cases h
theorem CW (c:CS)(i:Int)(x:No)(k:Int):(iS c i x k).er=c.er:=by unfold iS;split<;>rfl
theorem Km {v:CS→Int→Option (Int×CS)}(hv:∀c k r,v c k=some r→r.2.er=0→c.er=0):∀(l:List Int) (c:CS) {r:List Int×CS},hH v c l=some r→r.2.er=0→c.er=0
 |[],c,r,h,h0=>by simp only[hH,lα]at h;rw[←h]at h0;exact h0
 |k::l,c,r,h,h0=>by
  simp only[hH]at h;split at h
  ·cases h
  ·rename_i x c1 h1;split at h
   ·cases h
   ·rename_i xs c2 h2;simp only[lα]at h;rw[←h]at h0;have a:=Km hv l c1 h2 h0;exact hv _ _ _ h1 a
theorem Rn {v:CS→Int→Bool→Option (Int×CS)}(hv:∀c k d r,v c k d=some r→r.2.er=0→c.er=0):∀(l:List Int) (c:CS) (d:Bool) {r:CS},sD v c l d=some r→r.er=0→c.er=0
 |[],c,d,r,h,h0=>by simp only[sD,lα]at h;rw[←h]at h0;exact h0
 |k::l,c,d,r,h,h0=>by
  simp only[sD]at h;split at h
  ·cases h
  ·rename_i x c1 h1;have a:=Rn hv l c1 _ h h0;exact hv _ _ _ _ h1 a
theorem YF {v:CS→Int→Bool→Option (Int×CS)}(hv:∀c k d r,v c k d=some r→r.2.er=0→c.er=0){c:CS}{i:Int}{x:No}{r:CS}(h:qK v c i x=some r)(h0:r.er=0):c.er=0:=by
 unfold qK at h;split at h
 ·cases h
 ·rename_i c1 h1;simp only[lα]at h;have:c1.er=0:=by
   rw[←h]at h0;split at h0
   ·have:=kD h0;exact this
   ·exact h0
  exact Rn hv _ _ _ h1 this
theorem Mh:∀(f:Nat) (c:CS) (i:Int) (d:Bool) (r:Int×CS),kg f c i d=some r→r.2.er=0→c.er=0
 |0,c,i,d,r,h,h0=>by simp only[kg]at h;cases h
 |f+1,c,i,d,r,h,h0=>by
  simp only[kg]at h;split at h
  ·cases h
  ·split at h
   ·split at h
    ·cases h
    ·rename_i c1 h1;simp only[lα]at h;rw[←h]at h0;exact YF (Mh f) h1 h0
   ·split at h
    ·cases h
    ·rename_i ks c1 h1;have key:c1.er=0:=by
      split at h
      ·assumption
      ·simp only[lα]at h;rw[←h]at h0;exact h0
     exact Km (fun c k r=>Mh f c k false r) _ _ h1 key
section
variable {p q:List Ac} (hq:∀t m x,jR p t m=some x→jR q t m=some x)
include hq
end
end
end Go.Ab
end
section
namespace Go.Ab
open Go
noncomputable section
theorem EK {β:Type}{α:Type}[DecidableEq α]:∀(l:List (α×β)) (s t:α) (v:β),
  ((match l.findIdx? (fun(p:α×β)=>decide (s=p.1))with|some j=>l.set j (s,v)|none=>l++[(s,v)]).find? fun p=>decide (t=p.1))=if t=s then some (s,v)else l.find? fun p=>decide (t=p.1)
 |[],s,t,v=>by
  simp only[List.findIdx?_nil,List.nil_append,List.find?_cons,List.find?_nil];by_cases h:t=s<;>simp[h]
 |p::l,s,t,v=>by
  rw[mτ];by_cases h:s=p.1
  ·simp only[h,decide_true,if_true,List.set_cons_zero,List.find?_cons];by_cases ht:t=p.1<;>simp[ht]
  ·simp only[h,decide_false,Bool.false_eq_true,if_false];have ih:=EK l s t v;cases hf:l.findIdx? (fun p=>decide (s=p.1))with
   |none=>
    rw[hf]at ih;simp only[Option.map_none,List.cons_append,List.find?_cons]at ih ⊢
    rw[ih];by_cases ht:t=p.1
    ·subst ht;simp[Ne.symm h]
    ·simp[ht]
   |some j=>
    rw[hf]at ih;simp only[Option.map_some,List.set_cons_succ,List.find?_cons]at ih ⊢
    rw[ih];by_cases ht:t=p.1
    ·subst ht;simp[Ne.symm h]
    ·simp[ht]
theorem nf {β:Type}(l:List (List Nat×β))(s t:List Nat)(v:β):cY (nC l s v) t=if t=s then some v else cY l t:=by
 refine(congrArg (Option.map (·.2)) (EK l s t v)).trans ?_;unfold cY;split<;>rfl
theorem xC {β:Type}(l:List (Int×β))(s t:Int)(v:β):lG (td l s v) t=if t=s then some v else lG l t:=by
 refine(congrArg (Option.map (·.2)) (EK l s t v)).trans ?_;unfold lG;split<;>rfl
def Loc1 (lo:List Pa)(s:List Nat)(v:Vr):Prop:=v.field=false∧∃j:Nat,v.slot=j∧lo[j]?=some ⟨s,v.kind⟩
theorem Loc1.mono {lo lo':List Pa}{s:List Nat}{v:Vr}(h:Loc1 lo s v)(hp:∀(j:Nat) (x:Pa),lo[j]?=some x→lo'[j]?=some x):Loc1 lo' s v:=
 ⟨h.1,by obtain⟨j,h1,h2⟩:=h.2;exact⟨j,h1,hp _ _ h2⟩⟩
def aiv (lo lo':List Pa):Prop:=∀(j:Nat) (x:Pa),lo[j]?=some x→lo'[j]?=some x
structure afm (ns:List No)(c:CS)(b:Nat):Prop where
 sc:∀s v,cY c.sc s=some v→Loc1 c.lo s v
 va:∀i v,lG c.va i=some v→∃j:Nat,i=j∧j<b∧∃x,ns[j]?=some x∧(x.op=2∨x.op=8∨x.op=9)∧(cY c.fs x.name=some v∨Loc1 c.lo x.name v)∧
  (x.op=2→lG c.ki i=some v.kind)∧(x.op≠2→∃(k:Nat) (r:List Int),x.kids=(k:Int)::r∧k<b∧lG c.ki (k:Int)=some v.kind)
theorem afm.le {ns:List No}{c:CS}{b b':Nat}(h:afm ns c b)(hb:b≤b'):afm ns c b':=
 ⟨h.sc,fun i v hv=>by
  obtain⟨j,h1,h2,x,h3,h4,h5,h6,h7⟩:=h.va i v hv;exact⟨j,h1,by omega,x,h3,h4,h5,h6,fun hne=>by
   obtain⟨k,r,g1,g2,g3⟩:=h7 hne;exact⟨k,r,g1,by omega,g3⟩⟩⟩
inductive OpR (c:CS)(i:Int)(x:No)(ks:List Int):Int→CS→Prop
 |same {k}:x.op≠2→x.op≠8→x.op≠9→OpR c i x ks k c
 |var {v}:x.op=2→pM c x.name=some v→OpR c i x ks v.kind {c with va:=td c.va i v}
 |lett {y r}:x.op=8→ks=y::r→OpR c i x ks 0 {c with sc:=nC c.sc x.name ⟨y,c.lo.length,false⟩,le:=nC c.le x.name true,lo:=c.lo++[⟨x.name,y⟩],va:=td c.va i ⟨y,c.lo.length,false⟩}
 |asg {v r}:x.op=9→ks=v.kind::r→pM c x.name=some v→OpR c i x ks 0 {c with va:=td c.va i v}
theorem abv {c:CS}{i:Int}{s:List Nat}(h:(mj c i s).2.er=0):∃v,pM c s=some v∧mj c i s=(v,{c with va:=td c.va i v}):=by
 unfold mj at h ⊢
 cases hf:pM c s with
 |some v=>exact⟨v,rfl,rfl⟩
 |none=>rw[hf]at h;exact absurd h (ky (by decide))
theorem ahN {c:CS}{i e:Int}(h:(Ae c i e).er=0):Ae c i e=c:=by
 unfold Ae at h ⊢
 split
 ·rfl
 ·rename_i hne;rw[if_neg hne]at h;exact absurd h (ky hne)
theorem aiW {c c':CS}{i k:Int}{x:No}{ks:List Int}(h:opT c i x ks=some (k,c'))(h0:c'.er=0):OpR c i x ks k c':=by
 unfold opT at h;by_cases h7:x.op=7
 ·rw[if_pos h7]at h;unfold Rq at h;cases hl:jR c.pr x.name x.v.s with
  |none=>
   rw[hl]at h;simp only[lα,lε]at h;rw[←h.2]at h0;exact absurd h0 (ky (by decide))
  |some m=>
   rw[hl]at h;match ks,h with
   |a::r,h=>
    simp only[lα,lε]at h;rw[←h.2]at h0 ⊢
    rw[im h0];exact .same (by omega) (by omega) (by omega)
 rw[if_neg h7]at h;by_cases h6:x.op≤6
 ·rw[if_pos h6]at h;unfold EF at h;by_cases h1:x.op=1
  ·rw[if_pos h1]at h;simp only[lα,lε]at h;rw[←h.2];exact .same (by omega) (by omega) (by omega)
  rw[if_neg h1]at h;by_cases h3:x.op=3
  ·rw[if_pos h3]at h;simp only[lα,lε]at h;rw[←h.2];exact .same (by omega) (by omega) (by omega)
  rw[if_neg h3]at h;by_cases h2:x.op=2
  ·rw[if_pos h2]at h;simp only[lα,lε]at h;rw[←h.2]at h0;obtain⟨v,g1,g2⟩:=abv h0;rw[←h.1,←h.2,g2];exact .var h2 g1
  rw[if_neg h2]at h;by_cases h4:x.op=4
  ·rw[if_pos h4]at h;match ks,h with
   |a::r,h=>
    simp only[lα,lε]at h;rw[←h.2]at h0 ⊢
    rw[im h0];exact .same (by omega) (by omega) (by omega)
  rw[if_neg h4]at h;by_cases h5:x.op=5
  ·rw[if_pos h5]at h;match ks,h with
   |a::b::r,h=>
    simp only[lα,lε]at h;rw[←h.2]at h0 ⊢
    rw[im h0];exact .same (by omega) (by omega) (by omega)
  rw[if_neg h5]at h;simp only[lα,lε]at h;rw[←h.2]at h0 ⊢
  rw[ahN h0];exact .same (by omega) (by omega) (by omega)
 rw[if_neg h6]at h;cases hs:yA c i x ks with
 |none=>rw[hs]at h;cases h
 |some c1=>
  rw[hs]at h;simp only[lα,lε]at h;obtain⟨rfl,rfl⟩:=h;unfold yA at hs;by_cases h8:x.op=8
  ·rw[if_pos h8]at hs;match ks,hs with
   |y::r,hs=>
    simp only at hs;have hz:=ag1 hs h0;unfold xV at hs;cases hd:m5 (cn (qR c i x) i (decide (y=x.v.k))) x.name x.v.k with
    |none=>rw[hd]at hs;cases hs
    |some c2=>
     rw[hd]at hs;simp only[lα]at hs;rw[←hs]at h0;have e2:=SW h0;rw[JY hd]at e2;have hy:=tF e2;rw[im e2]at hd;simp only[lη]at hy;have e3:=kD e2;have hl1:qR c i x=c∧z7 c x.name≠true:=by
      unfold qR at e3 ⊢
      split
      ·rename_i hdup;rw[if_pos hdup]at e3;exact absurd e3 (ky (by decide))
      ·rename_i hdup;rw[if_neg hdup]at e3;split
       ·rename_i h8';rw[if_pos h8']at e3;exact absurd e3 (ky (by decide))
       ·exact⟨rfl,hdup⟩
     rw[hl1.1]at hd;unfold m5 at hd;split at hd
     ·simp only[lα]at hd;subst hd;obtain⟨v,g1,g2⟩:=abv h0;rw[g2]at hs;have hfs:cY c.fs x.name=none:=by
       cases hg:cY c.fs x.name with
       |none=>rfl
       |some w=>exact absurd (by unfold z7;rw[hg]) hl1.2
      unfold pM at g1;simp only[hfs,nf,if_true,lα]at g1;rw[←hs,←g1,←hy];exact .lett h8 rfl
     ·cases hd
  rw[if_neg h8]at hs;by_cases h9:x.op=9
  ·rw[if_pos h9]at hs;match ks,hs with
   |y::r,hs=>
    simp only[lα]at hs;rw[←hs]at h0 ⊢
    have hb:=tF h0;rw[im h0];obtain⟨v,g1,g2⟩:=abv (kD h0);rw[g2]at hb ⊢
    simp only[lη]at hb;exact .asg h9 (by rw[hb]) g1
  rw[if_neg h9]at hs;have hsame:c1=c:=by
   by_cases h11:x.op=11∨x.op=12
   ·rw[if_pos h11]at hs;match ks,hs with
    |y::r,hs=>
     simp only[lα]at hs;rw[←hs]at h0 ⊢
     exact im h0
   rw[if_neg h11]at hs;by_cases h13:x.op=13
   ·rw[if_pos h13]at hs;match ks,hs with
    |[],hs=>
     simp only[lα]at hs;rw[←hs]at h0 ⊢
     exact im h0
    |y::r,hs=>
     simp only[lα]at hs;rw[←hs]at h0 ⊢
     rw[im h0];exact im (kD h0)
   rw[if_neg h13]at hs;by_cases h15:x.op=15
   ·rw[if_pos h15]at hs;simp only[lα]at hs;rw[←hs]at h0 ⊢
    exact im h0
   rw[if_neg h15]at hs;by_cases h16:x.op=16
   ·rw[if_pos h16]at hs;simp only[lα]at hs;rw[←hs]at h0 ⊢
    exact im h0
   rw[if_neg h16]at hs;by_cases h17:x.op=17
   ·rw[if_pos h17]at hs;match ks,hs with
    |y::r,hs=>
     simp only[lα]at hs;rw[←hs]at h0 ⊢
     exact im h0
   rw[if_neg h17]at hs;simp only[lα]at hs;exact hs.symm
  subst hsame;exact .same (by omega) h8 h9
structure Kp (c c':CS)(b:Nat):Prop where
 lo:aiv c.lo c'.lo
 ki:∀j:Nat,j<b→lG c'.ki (j:Int)=lG c.ki (j:Int)
theorem Kp.refl (c:CS)(b:Nat):Kp c c b:=⟨fun _ _ h=>h,fun _ _=>rfl⟩
theorem Kp.trans {a b c:CS}{k k':Nat}(h:Kp a b k)(g:Kp b c k')(hk:k≤k'):Kp a c k:=⟨fun j x hx=>g.lo j x (h.lo j x hx),fun j hj=>(g.ki j (by omega)).trans (h.ki j hj)⟩
theorem adR (c:CS)(i:Int)(x:No)(k:Int)(j:Int):lG (iS c i x k).ki j=if x.op≤7∧j=i then some k else lG c.ki j:=by
 unfold iS;by_cases h:x.op≤7
 ·rw[if_pos h,xC];by_cases hj:j=i<;>simp[h,hj]
 ·rw[if_neg h,if_neg (fun g=>h g.1)]
theorem WM (c:CS)(i:Int)(x:No)(k:Int):(iS c i x k).va=c.va∧(iS c i x k).sc=c.sc∧(iS c i x k).lo=c.lo∧(iS c i x k).fs=c.fs:=by
 unfold iS;split<;>exact⟨rfl,rfl,rfl,rfl⟩
theorem xK {ns:List No}{i:Nat}{x:No}(h:ns[i]?=some x):i<ns.length:=by
 rcases lπ i ns.length with h1|h1
 ·exact h1
 ·rw[lζ h1]at h;cases h
theorem OQ {f:Nat}{p:List Ac}{fs:List (List Nat×Vr)}{i:Nat}{all:List Me}:∀(r:List Me) (j:Nat) (acc l:List CS),qT f p fs i all r j acc=some (.inr l)→∃l',l=acc++l'∧l'.length=r.length∧∀(q:Nat) c,l'[q]?=some c→∃m,r[q]?=some m∧iw f p fs m=some (some c)∧c.er=0
 |[],j,acc,l,h=>by
  simp only[qT,lα,Sum.inr.injEq]at h;exact⟨[],by simp[h],rfl,fun q c hc=>by simp at hc⟩
 |m::r,j,acc,l,h=>by
  simp only[qT]at h;split at h
  ·cases h
  ·cases hc:iw f p fs m with
   |none=>rw[hc]at h;cases h
   |some o=>
    cases o with
    |none=>rw[hc]at h;cases h
    |some c=>
     rw[hc]at h;simp only at h;split at h
     ·rename_i h0;obtain⟨l',g1,g2,g3⟩:=OQ r (j+1) (acc++[c]) l h;refine⟨c::l',by rw[g1];simp,by simp[g2],fun q c' hq=>?_⟩
      cases q with
      |zero=>
       simp only[List.getElem?_cons_zero,lα]at hq;subst hq;exact⟨m,rfl,hc,h0⟩
      |succ q=>
       simp only[List.getElem?_cons_succ]at hq ⊢
       exact g3 q c' hq
     ·cases h
theorem T5 {f:Nat}{p:List Ac}{fs:List (List Nat×Vr)}{i:Nat}{all:List Me}{bs:List (List CS)}:∀(r:List Me) (j:Nat) (acc:List CS),¬qT f p fs i all r j acc=some (.inl (.good bs))
 |[],j,acc,h=>by simp[qT]at h
 |m::r,j,acc,h=>by
  simp only[qT]at h;split at h
  ·cases h
  ·split at h
   ·cases h
   ·cases h
   ·split at h
    ·exact T5 r _ _ h
    ·cases h
theorem Ge {f:Nat}{p:List Ac}:∀(r:List Ac) (j:Nat) (acc bs:List (List CS)),tD f p r j acc=some (.good bs)→∃l',bs=acc++l'∧l'.length=r.length∧∀(q:Nat) l,l'[q]?=some l→∃a fs,r[q]?=some a∧xA [] a.fields 0=some fs∧l.length=a.methods.length∧∀(w:Nat) c,l[w]?=some c→∃m,a.methods[w]?=some m∧iw f p fs m=some (some c)∧c.er=0
 |[],j,acc,bs,h=>by
  simp only[tD,lα,An.good.injEq]at h;exact⟨[],by simp[h],rfl,fun q c hc=>by simp at hc⟩
 |a::r,j,acc,bs,h=>by
  simp only[tD]at h;split at h
  ·cases h
  ·cases hf:xA [] a.fields 0 with
   |none=>rw[hf]at h;cases h
   |some fs=>
    rw[hf]at h;simp only at h;cases hm:qT f p fs j a.methods a.methods 0 []with
    |none=>rw[hm]at h;cases h
    |some o=>
     cases o with
     |inl e=>
      rw[hm]at h;simp only[lα]at h;subst h;exact absurd hm (T5 _ _ _)
     |inr l=>
      rw[hm]at h;simp only at h;obtain⟨l',g1,g2,g3⟩:=Ge r (j+1) (acc++[l]) bs h;refine⟨l::l',by rw[g1];simp,by simp[g2],fun q l0 hq=>?_⟩
      cases q with
      |zero=>
       simp only[List.getElem?_cons_zero,lα]at hq;subst hq;obtain⟨l1,k1,k2,k3⟩:=OQ a.methods 0 [] l hm;simp only[List.nil_append]at k1;subst k1;exact⟨a,fs,rfl,hf,k2,k3⟩
      |succ q=>
       simp only[List.getElem?_cons_succ]at hq ⊢
       exact g3 q l0 hq
def iu (bs:List (List CS))(t m:Int):Option CS:=match eG bs t with|some l=>eG l m|none=>none
theorem ij {α:Type}{l:List α}{i:Int}{x:α}(h:eG l i=some x):∃j:Nat,i=j∧l[j]?=some x:=by
 unfold eG at h;split at h
 ·exact⟨i.toNat,by omega,h⟩
 ·cases h
end
end Go.Ab
end
section
namespace Go.Ab
open Go
set_option maxRecDepth 100000
noncomputable section
structure tU (p:List Ac):Prop where
 ty:p.length<1000
 ac:∀a∈p,SzA a
theorem tU.p {p:List Ac}(h:tU p):SzP p:=⟨h.ty,fun a ha=>(h.ac a ha).me,fun a ha=>(h.ac a ha).fl,fun a ha m hm=>⟨((h.ac a ha).mm m hm).ns,fun x hx=>(((h.ac a ha).mm m hm).nx x hx).ks,((h.ac a ha).mm m hm).ps⟩⟩
theorem T6 {p:List Ac}{fs:List (List Nat×Vr)}{i:Nat}{all:List Me}:∀(r:List Me) (j:Nat) (acc:List CS),(∀m∈r,zc m.nodes∧m.nodes.length<1000∧m.params.length<1000)→∃o,qT 1000 p fs i all r j acc=some o
 |[],j,acc,_=>⟨_,rfl⟩
 |m::r,j,acc,h=>by
  obtain⟨h1,h2,h3⟩:=h m (lυ ..);simp only[qT];split
  ·exact⟨_,rfl⟩
  ·obtain⟨o,ho⟩:=Wc p fs m h1 h2 h3;rw[ho];cases o with
   |none=>exact⟨_,rfl⟩
   |some c=>
    simp only;split
    ·exact T6 r (j+1) _ fun m hm=>h m (lψ _ hm)
    ·exact⟨_,rfl⟩
theorem UF {p:List Ac}:∀(r:List Ac) (j:Nat) (acc:List (List CS)),(∀a∈r,∀m∈a.methods,zc m.nodes∧m.nodes.length<1000∧m.params.length<1000)→∃o,tD 1000 p r j acc=some o
 |[],j,acc,_=>⟨_,rfl⟩
 |a::r,j,acc,h=>by
  simp only[tD];split
  ·exact⟨_,rfl⟩
  ·cases xA [] a.fields 0 with
   |none=>exact⟨_,rfl⟩
   |some fs=>
    obtain⟨o,ho⟩:=T6 (p:=p) (fs:=fs) (i:=j) (all:=a.methods) a.methods 0 [] (h a (lυ ..));simp only[ho];cases o with
    |inl e=>exact⟨_,rfl⟩
    |inr l=>exact UF r (j+1) _ fun b hb=>h b (lψ _ hb)
def Gj (p:List Ac):An:=bif cN p then(tD 1000 p p 0 []).getD (.bad 0 0 0 1)else .bad 0 0 0 1
theorem Tf {p:List Ac}{bs:List (List CS)}(h:Gj p= .good bs):cN p=true∧tD 1000 p p 0 []=some (.good bs):=by
 unfold Gj at h;cases hv:cN p with
 |false=>rw[hv]at h;cases h
 |true=>
  rw[hv]at h;simp only[cond_true]at h;cases ht:tD 1000 p p 0 []with
  |none=>rw[ht]at h;cases h
  |some o=>rw[ht]at h;simp only[Option.getD_some]at h;rw[h];exact⟨rfl,rfl⟩
theorem IJ {p:List Ac}(hp:tU p)(hv:cN p=true):∃o,tD 1000 p p 0 []=some o:=
 UF p 0 [] fun a ha m hm=>⟨((Gg hv).2 a ha m hm).1,((hp.ac a ha).mm m hm).ns,((hp.ac a ha).mm m hm).ps⟩
abbrev pD (p:List Ac):D:= .p (.agg [.slice 3 (p.map Ac.e)])
theorem ahw {n:Nat}(p:List Ac)(hp:tU p):evFn lay0.tab (n+6002) 53 [pD p] []=VV p (Gj p):=by
 have hv:=Xx (n:=n+4991) p hp.ac hp.ty;refine UN (f:=1000) (n:=n) p hp.p (cN p) (Gj p) hv ?_;unfold Gj;cases h:cN p with
 |false=>exact .inl ⟨rfl,rfl⟩
 |true=>
  obtain⟨o,ho⟩:=IJ hp h;exact .inr ⟨rfl,by rw[ho];rfl⟩
def An.pl:An→aK| .bad t m n _=>⟨t,m,n⟩| .good _=>⟨0,0,0⟩
def An.er:An→Int| .bad _ _ _ e=>e| .good _=>0
theorem NJ (c:lR)(K:lR→R):Bd c.hp K=K c:=rfl
theorem dPl (t m n:Int)(K:aK→R):cf (plD t m n) K=K ⟨t,m,n⟩:=rfl
theorem Ny (i o:Nat)(a b:R):iL (vS (.box i o)) a b=a:=rfl
theorem Nx (x:Da)(a b:R):iL (vS (.p x)) a b=b:=rfl
theorem dBx (i o:Nat)(K:R):GJ i o (.box i o) K=K:=by unfold GJ;simp;rfl
theorem NM (K:R):dNp .nilptr K=K:=rfl
theorem IL {n:Nat}{p:List Ac}(hp:tU p){t m k e:Int}(ha:Gj p= .bad t m k e)(K:KV):bv lay0.tab (n+6002) 53 [pD p] [] K=K (.tup [.p .nilptr,.p (plD t m k),.p (.int .i64 e)]) []:=aa (by rw[ahw p hp,ha];rfl) K
theorem CC {n:Nat}{p:List Ac}(hp:tU p){bs:List (List CS)}(ha:Gj p= .good bs)(K:KV):bv lay0.tab (n+6002) 53 [pD p] [] K=K (.tup [.box 0 0,.p (plD 0 0 0),.p (.int .i64 0)]) (fw p bs).hp:=aa (by rw[ahw p hp,ha];rfl) K
theorem XC {n:Nat}(p:List Ac)(hp:tU p):evFn lay0.tab (n+6003) 18 [pD p] []=some (.tup [.p (Gj p).pl.e,.p (.int .i64 (Gj p).er)],[]):=by
 apply X3 (n+6002) ⟨p.map Ac.e⟩;unfold DG;show bv lay0.tab (n+6002) 53 [pD p] [] _=_;cases ha:Gj p with
 |bad t m k e=>
  simp only[IL hp ha,bt,cg,ba,aA,bz,dPl,Ny,Nx,dBx,NM,NJ,bp,aC];rfl
 |good bs=>
  simp only[CC hp ha,bt,cg,ba,aA,bz,dPl,Ny,Nx,dBx,NM,NJ,bp,aC];rfl
def sE:Option CS→Da
 |some c=>cI c
 |none=> .agg [.slice 2 [],.nilmap,.nilmap]
theorem IQ {n:Nat}(p:List Ac)(bs:List (List CS))(t m:Int):evFn lay0.tab (n+1) 92 [.box 0 0,.p (.int .i64 t),.p (.int .i64 m)] (fw p bs).hp=some (.tup [.p (sE (iu bs t m)),.p (.bool (iu bs t m).isSome)],(fw p bs).hp):=by
 apply abX n (fw p bs) t m;unfold Ja iu;have hn:(fw p bs).bn=bs.length:=rfl;have hb:(fw p bs).bs=bs.map fun l=> .slice 3 (l.map cI):=rfl
 by_cases h0:t<0
 ·rw[cT h0,aP];have:eG bs t=none:=by unfold eG;rw[if_neg (by omega)]
  rw[this];rfl
 rw[Bq h0,aS,hn,bJ,dt];obtain⟨j,rfl⟩:∃j:Nat,t=(j:Int):=⟨t.toNat,by omega⟩
 by_cases h1:(bs.length:Int)≤(j:Int)
 ·rw[if_pos h1];have:eG bs (j:Int)=none:=by rw[eg,lζ (by omega)]
  rw[this];rfl
 rw[if_neg h1];have hj:j<bs.length:=by omega
 have hg:(fw p bs).bs[0+(j:Int).toNat]?=some (.slice 3 (bs[j].map cI)):=by
  rw[hb,Nat.zero_add,Int.toNat_natCast,lχ,lγ hj];rfl
 rw[aG hj];simp only[hg,bJ,show(0:Int)≤(j:Int) by omega,decide_true,aP,cT (show(j:Int)<(bs.length:Int) by omega),be];by_cases h2:m<0
 ·rw[cT h2,aP];have:eG bs[j] m=none:=by unfold eG;rw[if_neg (by omega)]
  rw[this];rfl
 rw[Bq h2,aS];obtain⟨i,rfl⟩:∃j:Nat,m=(j:Int):=⟨m.toNat,by omega⟩
 show iL (decide (((bs[j].map cI).length:Int)≤(i:Int))) _ (cL (bw (bs[j].map cI) (i:Int)) _)=_;rw[lβ,dt];by_cases h3:(bs[j].length:Int)≤(i:Int)
 ·rw[if_pos h3];have:eG bs[j] (i:Int)=none:=by rw[eg,lζ (by omega)]
  rw[this];rfl
 ·rw[if_neg h3,aE,aH,aG (by omega)];rfl
theorem Db {n:Nat}(t m:Int):evFn lay0.tab (n+1) 92 [.p .nilptr,.p (.int .i64 t),.p (.int .i64 m)] []=some (.tup [.p (sE none),.p (.bool false)],[]):=XO n t m _ rfl
def aaw (o:Option CS)(n:Int):Option Int:=match o with|some c=>lG c.ki n|none=>none
def abw (o:Option CS)(n:Int):Option Vr:=match o with|some c=>lG c.va n|none=>none
def OI (o:Option CS):List Pa:=match o with|some c=>c.lo|none=>[]
def kiD (o:Option Int):D:= .tup [.p (.int .i64 (o.getD 0)),.p (.bool o.isSome)]
def vaD (o:Option Vr):D:= .tup [.p (.int .i64 ((o.map (·.slot)).getD 0)),.p (.bool ((o.map (·.field)).getD false)),.p (.bool o.isSome)]
theorem abG {n:Nat}(p:List Ac)(bs:List (List CS))(x:aK):evFn lay0.tab (n+2) 55 [.box 0 0,.p x.e] (fw p bs).hp=some (kiD (aaw (iu bs x.Type_ x.Method) x.Node),(fw p bs).hp):=by
 apply abV (n+1) (fw p bs) x;unfold I8;simp only[aa (IQ (n:=n) p bs x.Type_ x.Method)];cases iu bs x.Type_ x.Method with
 |none=>
  simp only[bt,cg,ba,aC,aA,bp,sE,cI,qN,mW];rfl
 |some c=>
  have h:=lkI c.ki x.Node (fun v=> .int .i64 v) (some (.tup [.p (.int .i64 0),.p (.bool false)],(fw p bs).hp)) (fun x25=>aQ .i64 x25 fun i26=>some (.tup [.p (.int .i64 i26),.p (.bool true)],(fw p bs).hp));simp only[bt,cg,ba,aC,aA,bp,sE,cI,qN,mW];refine Eq.trans h ?_;simp only[aaw];cases lG c.ki x.Node<;>rfl
theorem Xo {n:Nat}(x:aK):evFn lay0.tab (n+2) 55 [.p .nilptr,.p x.e] []=some (kiD none,[]):=by
 apply XM (n+1) x;unfold Dp;rw[aa (Db (n:=n) x.Type_ x.Method)];simp only[bt,cg,ba,aC,aA,bp,sE,cI,qN,mW];rfl
theorem abH {n:Nat}(p:List Ac)(bs:List (List CS))(x:aK):evFn lay0.tab (n+2) 60 [.box 0 0,.p x.e] (fw p bs).hp=some (vaD (abw (iu bs x.Type_ x.Method) x.Node),(fw p bs).hp):=by
 apply abW (n+1) (fw p bs) x;unfold I9;simp only[aa (IQ (n:=n) p bs x.Type_ x.Method)];cases iu bs x.Type_ x.Method with
 |none=>
  simp only[bt,cg,ba,aC,aA,bp,sE,cI,qN,mW];rfl
 |some c=>
  have h:=lkI c.va x.Node Vr.e (some (.tup [.p (.int .i64 0),.p (.bool false),.p (.bool false)],(fw p bs).hp)) (fun x25=>aT x25 fun u26=>iL u26.field (some (.tup [.p (.int .i64 u26.slot),.p (.bool true),.p (.bool true)],(fw p bs).hp)) (some (.tup [.p (.int .i64 u26.slot),.p (.bool false),.p (.bool true)],(fw p bs).hp)))
  simp only[bt,cg,ba,aC,aA,bp,sE,cI,qN,mW];refine Eq.trans h ?_;simp only[abw];cases lG c.va x.Node with
  |none=>rfl
  |some v=>
   obtain⟨k,s,f⟩:=v;cases f<;>rfl
theorem Xp {n:Nat}(x:aK):evFn lay0.tab (n+2) 60 [.p .nilptr,.p x.e] []=some (vaD none,[]):=by
 apply XN (n+1) x;unfold Dq;rw[aa (Db (n:=n) x.Type_ x.Method)];simp only[bt,cg,ba,aC,aA,bp,sE,cI,qN,mW];rfl
theorem aet:∃x,lay0.tab 96=some (.both (mw 2 24) x):=⟨(lF prog0 globs0 jN 96).getD ⟨.skip,[],false⟩,by kernel_rfl⟩
theorem IN {n:Nat}(l:List Da)(h:l.length<10000):evFn lay0.tab (n+1) 96 [.p (.slice 2 l)] []=some (.p (.slice 2 l),[]):=by
 obtain⟨x,hx⟩:=aet;unfold evFn;rw[hx];show mw 2 24 [.slice 2 l]=_;show(bif(Nat.beq 2 2&&(Nat.ble ((2*(0+l.length)+192)*24) 281474976710656&&Nat.ble (2*(0+l.length)+192) 9223372036854775807))then some (D.p (.slice 2 l),([]:List Ob))else none)=_
 rw[show(Nat.beq 2 2&&(Nat.ble ((2*(0+l.length)+192)*24) 281474976710656&&Nat.ble (2*(0+l.length)+192) 9223372036854775807))=true by rw[lδ,lδ,Nat.ble_eq,Nat.ble_eq];exact⟨rfl,by omega,by omega⟩];rfl
theorem UP {n:Nat}(p:List Ac)(bs:List (List CS))(t m:Int)(h:(OI (iu bs t m)).length<10000):evFn lay0.tab (n+2) 63 [.box 0 0,.p (.int .i64 t),.p (.int .i64 m)] (fw p bs).hp=some (.p (.slice 2 ((OI (iu bs t m)).map Pa.e)),(fw p bs).hp):=by
 apply Vn (n+1) (fw p bs) t m;unfold zg;rw[aa (IQ (n:=n) p bs t m)];cases hb:iu bs t m with
 |none=>
  simp only[bt,cg,ba,aC,aA,bp,sE,cI,qN,mW,aa (IN (n:=n) [] (by decide))];rfl
 |some c=>
  rw[hb]at h;simp only[bt,cg,ba,aC,aA,bp,sE,cI,qN,mW,aa (IN (n:=n) (c.lo.map Pa.e) (by rw[lβ];exact h))];rfl
theorem Qr {n:Nat}(t m:Int):evFn lay0.tab (n+2) 63 [.p .nilptr,.p (.int .i64 t),.p (.int .i64 m)] []=some (.p (.slice 2 []),[]):=by
 apply Q0 (n+1) t m;unfold vj;rw[aa (Db (n:=n) t m)];simp only[bt,cg,ba,aC,aA,bp,sE,cI,qN,mW,aa (IN (n:=n) [] (by decide))];rfl
def ow (p:List Ac)(t m:Int):Option CS:=match Gj p with| .good bs=>iu bs t m|_=>none
theorem abL {n:Nat}(p:List Ac)(hp:tU p)(x:aK):evFn lay0.tab (n+6003) 21 [pD p,.p x.e] []=some (kiD (aaw (ow p x.Type_ x.Method) x.Node),[]):=by
 apply ab7 (n+6002) ⟨p.map Ac.e⟩ x;unfold Jk ow;show bv lay0.tab (n+6002) 53 [pD p] [] _=_;cases ha:Gj p with
 |bad t m k e=>
  simp only[IL hp ha,bt,cg,ba,aA,bz,dPl,Ny,Nx,dBx,NM,NJ,bp,aC,aa (Xo (n:=n+6000) x)];rfl
 |good bs=>
  simp only[CC hp ha,bt,cg,ba,aA,bz,dPl,Ny,Nx,dBx,NM,NJ,bp,aC,aa (abG (n:=n+6000) p bs x)];cases aaw (iu bs x.Type_ x.Method) x.Node<;>rfl
theorem abM {n:Nat}(p:List Ac)(hp:tU p)(x:aK):evFn lay0.tab (n+6003) 24 [pD p,.p x.e] []=some (vaD (abw (ow p x.Type_ x.Method) x.Node),[]):=by
 apply ab8 (n+6002) ⟨p.map Ac.e⟩ x;unfold Jl ow;show bv lay0.tab (n+6002) 53 [pD p] [] _=_;cases ha:Gj p with
 |bad t m k e=>
  simp only[IL hp ha,bt,cg,ba,aA,bz,dPl,Ny,Nx,dBx,NM,NJ,bp,aC,aa (Xp (n:=n+6000) x)];rfl
 |good bs=>
  simp only[CC hp ha,bt,cg,ba,aA,bz,dPl,Ny,Nx,dBx,NM,NJ,bp,aC,aa (abH (n:=n+6000) p bs x)];cases abw (iu bs x.Type_ x.Method) x.Node with
  |none=>rfl
  |some v=>
   obtain⟨k,s,f⟩:=v;cases f<;>rfl
theorem Zs {pr:List Ac}{fs:List (List Nat×Vr)}{m:Me}{c:CS}(h:iw 1000 pr fs m=some (some c))(hb:zc m.nodes)(hn:m.nodes.length<1000)(hp:m.params.length<1000):c.lo.length<10000:=by
 unfold iw at h;obtain⟨o,h1,h2⟩:=Lx m.params (CS.init pr fs m) (by simp[CS.init];exact hp);rw[h1]at h;cases o with
 |none=>cases h
 |some c1=>
  obtain⟨k,hs,hk⟩:=hb.tree;have hst:=yn _ _ h1;have hl:=h2 c1 rfl;simp[CS.init]at hl;obtain⟨k',c2,e,hle⟩:=C8 hb.ar 1000 0 k hs (by omega) c1 false (hst.ns) (by omega);have:((m.nodes.length:Int) - 1)=(k:Int):=by omega
  simp only[this,e,lα]at h;subst h;omega
theorem OJ {p:List Ac}(hp:tU p)(t m:Int):(OI (ow p t m)).length<10000:=by
 unfold ow;cases ha:Gj p with
 |bad t m k e=>simp[OI]
 |good bs=>
  obtain⟨hv,ht⟩:=Tf ha;obtain⟨l',g1,g2,g3⟩:=Ge p 0 [] bs ht;simp only[List.nil_append]at g1;subst g1;unfold iu;simp only;cases hl:eG bs t with
  |none=>simp[OI]
  |some l=>
   simp only;cases hm:eG l m with
   |none=>simp[OI]
   |some c=>
    obtain⟨tn,rfl,hl2⟩:=ij hl;obtain⟨mn,rfl,hm2⟩:=ij hm;obtain⟨a,fs,ha,hf,_,hcs⟩:=g3 tn l hl2;obtain⟨me,hme,hck,h0⟩:=hcs mn c hm2;have h1:=mα ha;have h2:=mα hme;exact Zs hck ((Gg hv).2 a h1 me h2).1 ((hp.ac a h1).mm me h2).ns ((hp.ac a h1).mm me h2).ps
theorem U8 {n:Nat}(p:List Ac)(hp:tU p)(t m:Int):evFn lay0.tab (n+6003) 27 [pD p,.p (.int .i64 t),.p (.int .i64 m)] []=some (.p (.slice 2 ((OI (ow p t m)).map Pa.e)),[]):=by
 have hlo:=OJ hp t m;apply VN (n+6002) ⟨p.map Ac.e⟩ t m;unfold zE;unfold ow at hlo ⊢
 show bv lay0.tab (n+6002) 53 [pD p] [] _=_;cases ha:Gj p with
 |bad t m k e=>
  simp only[IL hp ha,bt,cg,ba,aA,bz,dPl,Ny,Nx,dBx,NM,NJ,bp,aC,aa (Qr (n:=n+6000) _ _)];rfl
 |good bs=>
  rw[ha]at hlo;simp only[CC hp ha,bt,cg,ba,aA,bz,dPl,Ny,Nx,dBx,NM,NJ,bp,aC,aa (UP (n:=n+6000) p bs t m hlo)];rfl
end
end Go.Ab
end
section
namespace Go.Ab
open Go
set_option maxRecDepth 100000
noncomputable section
def q0 (v:Va):Bool:=(v.L.all fun t=>!aU 100 (ct t))&&(bx (ct v.s) 100&&(bx (ct v.I) 40&&bx (ct v.L) 40))
theorem wB {i:Nat}(h:i<1000000000000000):aj .i64 ((i:Int)+1)=((i+1:Nat):Int):=by
 rw[jT (by omega) (by omega)];omega
theorem S4 {n:Nat}(v:Va)(h:v.L.length<n)(hb:v.L.length<1000000000000000):evFn lay0.tab (n+1) 52 [.p (.agg v.c)] []=some (.p (.bool (q0 v)),[]):=by
 apply ab5 n v.r;unfold Ji q0;refine(aX v.L (fun q i=>tT _ n _ _ q (i,v.r)) (fun t=>aU 100 (ct t)) (fun i=>some (.p (.bool false),[])) (some (.p (.bool (bx (ct v.s) 100&&(bx (ct v.I) 40&&bx (ct v.L) 40))),[])) (fun q i hi=>?_) (fun q=>?_) h).trans ?_
 ·rw[Eb];show iL (aU (i:Int) ((v.L.map Da.str).length:Int)) (cL (bw (v.L.map Da.str) (i:Int)) _) _=_;simp only[lβ,cT (show((i:Int)<(v.L.length:Int)) by omega),aP,aE,aH,aG hi,be,z0,wB (show i<1000000000000000 by omega)];exact de _ _ _
 ·rw[Eb];show iL (aU (v.L.length:Int) ((v.L.map Da.str).length:Int)) _ (iL (bx (v.s.length:Int) 100) (iL (bx ((v.I.map iE).length:Int) 40) (iL (bx ((v.L.map Da.str).length:Int) 40) _ _) _) _)=_;simp only[lβ,bY,aS,bE,dW,gu,ct,Bool.and_true]
 ·rw[pI];cases v.L.findIdx? fun t=>aU 100 (ct t)<;>rfl
def smF (f:Fe):Bool:=!aU 100 (ct f.name)&&q0 f.init
def Xi (x:No):Bool:=!aU 100 (ct x.name)&&(!aU 60 (ct x.kids)&&q0 x.v)
def Ux:List Me→Int→Option Int
 |[],t=>some t
 |m::r,t=>bif aU 400 (aj .i64 (t+ct m.nodes))then none else bif aU 20 (ct m.params)then none else bif aU 100 (ct m.name)then none else bif m.nodes.all Xi then Ux r (aj .i64 (t+ct m.nodes))else none
def smA (a:Ac):Bool:=!aU 20 (ct a.fields)&&(!aU 20 (ct a.methods)&&(!aU 100 (ct a.name)&&a.fields.all smF))
def smP:List Ac→Int→Option Int
 |[],t=>some t
 |a::r,t=>bif smA a then(match Ux a.methods t with|none=>none|some t=>smP r t)else none
def wj (p:List Ac):Bool:=!aU 20 (ct p)&&(smP p 0).isSome
structure LBV (n:Nat)(v:Va):Prop where
 l:v.L.length<n
 b:v.L.length<1000000000000000
structure Vl (n:Nat)(a:Ac):Prop where
 fl:a.fields.length<n
 me:a.methods.length<n
 ff:∀f∈a.fields,LBV n f.init
 mm:∀m∈a.methods,m.nodes.length<n∧m.nodes.length<1000000000000000∧∀x∈m.nodes,LBV n x.v
 pn:∀m∈a.methods,∀q∈m.params,q.name.length<9223372036854775808
theorem Vl.le {n n':Nat}{a:Ac}(h:Vl n a)(hn:n≤n'):Vl n' a:=⟨by have:=h.fl;omega,by have:=h.me;omega,fun f hf=>⟨by have:=(h.ff f hf).l;omega,(h.ff f hf).b⟩,fun m hm=>⟨by have:=(h.mm m hm).1;omega,(h.mm m hm).2.1,fun x hx=>⟨by have:=((h.mm m hm).2.2 x hx).l;omega,((h.mm m hm).2.2 x hx).b⟩⟩,h.pn⟩
theorem ai2 {n:Nat}(a:Ac)(h:Vl n a)(hl:a.fields.length<1000)(P:ab)(i j:Int)(k0:ab×af→R)(k1:pd→R):pi (bv lay0.tab (n+1)) (n+1) k0 k1 (n+1) (i,j,0,P,a.r)=bif a.fields.all smF then k1 (i,j,(a.fields.length:Int),P,a.r)else k0 (P,a.r):=by
 refine(aX a.fields (fun q e=>pi _ (n+1) _ _ q (i,j,e,P,a.r)) (fun f=>!smF f) (fun _=>k0 (P,a.r)) (k1 (i,j,(a.fields.length:Int),P,a.r)) (fun q e he=>?_) (fun q=>?_) (by have:=h.fl;omega)).trans ?_
 ·rw[D3];have hv:=h.ff a.fields[e] (lι _);have e1:=aa (S4 (n:=n) a.fields[e].init hv.l hv.b);simp only[Va.c]at e1;show iL (aU (e:Int) ((a.fields.map Fe.e).length:Int)) (cL (bw (a.fields.map Fe.e) (e:Int)) fun x11=>bR x11 fun u12=>iL (aU 100 ↑(List.length u12.Name)) _ (cL (bw (a.fields.map Fe.e) (e:Int)) fun x13=>_)) _=_
  simp only[lβ,cT (show((e:Int)<(a.fields.length:Int)) by omega),aP,aE,aH,aG he,be,dFe,wS (show e<cb by unfold cb;omega),show ∀f:Fe,f.r.Name=f.name from fun _=>rfl,show ∀f:Fe,f.r.Init_Kind=f.init.k from fun _=>rfl,show ∀f:Fe,f.r.Init_N=f.init.n from fun _=>rfl,show ∀f:Fe,f.r.Init_S=f.init.s from fun _=>rfl,show ∀f:Fe,f.r.Init_I=f.init.I.map iE from fun _=>rfl,show ∀f:Fe,f.r.Init_L=f.init.L.map .str from fun _=>rfl,e1,ba,aC,aA,smF,ct];refine Eq.trans ?_ (de _ _ _);cases aU 100 (a.fields[e].name.length:Int)<;>cases q0 a.fields[e].init<;>rfl
 ·rw[D3];show iL (aU (a.fields.length:Int) ((a.fields.map Fe.e).length:Int)) _ _=_;simp only[lβ,bY,aS]
 ·rw[eQ];cases a.fields.findIdx? fun f=>!smF f<;>rfl
theorem ai3 {n:Nat}(m:Me)(hx:∀x∈m.nodes,LBV n x.v)(hn:m.nodes.length<n)(hl:m.nodes.length<1000)(P:ab)(A:af)(i j k:Int)(k0:ab×af×ah→R)(k1:pf→R):pj (bv lay0.tab (n+1)) (n+1) k0 k1 (n+1) (i,j,k,0,P,A,m.r)=bif m.nodes.all Xi then k1 (i,j,k,(m.nodes.length:Int),P,A,m.r)else k0 (P,A,m.r):=by
 refine(aX m.nodes (fun q e=>pj _ (n+1) _ _ q (i,j,k,e,P,A,m.r)) (fun x=>!Xi x) (fun _=>k0 (P,A,m.r)) (k1 (i,j,k,(m.nodes.length:Int),P,A,m.r)) (fun q e he=>?_) (fun q=>?_) (by omega)).trans ?_
 ·rw[D5];have hv:=hx m.nodes[e] (lι _);have e1:=aa (S4 (n:=n) m.nodes[e].v hv.l hv.b);simp only[Va.c]at e1;simp only[pA,show m.r.Nodes=m.nodes.map No.e from rfl,lβ,cT (show((e:Int)<(m.nodes.length:Int)) by omega),aP,aE,aH,aG he,be,sI,wS (show e<cb by unfold cb;omega),Cc,Gk,K0,Il,K1,K2,pR,lβ,e1,ba,aC,aA,Xi,ct];refine Eq.trans ?_ (de _ _ _);cases aU 100 (m.nodes[e].name.length:Int)<;>cases aU 60 (m.nodes[e].kids.length:Int)<;>cases q0 m.nodes[e].v<;>rfl
 ·rw[D5];simp only[pA,show m.r.Nodes=m.nodes.map No.e from rfl,lβ,bY,aS]
 ·rw[eQ];cases m.nodes.findIdx? fun x=>!Xi x<;>rfl
theorem ail {n:Nat}(a:Ac)(h:Vl n a)(hl:a.methods.length<1000)(P:ab)(i:Int)(k0:ab×af×ah→R)(k1:pe→R)(Z:R)(hk0:∀x,k0 x=Z):∀(e q j:Nat) (t:Int),j+e=a.methods.length→e<q→0≤t→t≤400→
  L_Small_3 (bv lay0.tab (n+1)) (n+1) k0 k1 q (t,i,(j:Int),P,a.r)=match Ux (a.methods.drop j) t with|none=>Z|some t=>k1 (t,i,(a.methods.length:Int),P,a.r)
 |0,q+1,j,t,he,_,_,_=>by
  obtain rfl:j=a.methods.length:=by omega
  rw[D4];simp only[pz,show a.r.Methods=a.methods.map Me.e from rfl,lβ,bY,aS,List.drop_length,Ux]
 |e+1,q+1,j,t,he,hq,h0,h4=>by
  have hj:j<a.methods.length:=by omega
  obtain⟨g1,g2,g3⟩:=h.mm a.methods[j] (lι _);rw[D4,lμ hj];simp only[pz,show a.r.Methods=a.methods.map Me.e from rfl,lβ,cT (show((j:Int)<(a.methods.length:Int)) by omega),aP,aE,aH,aG hj,be,NK,wS (show j<cb by unfold cb;omega),show ∀m:Me,m.r.Nodes=m.nodes.map No.e from fun _=>rfl,show ∀m:Me,m.r.Params=m.params.map Pa.e from fun _=>rfl,show ∀m:Me,m.r.Name=m.name from fun _=>rfl,lβ,hk0,Ux,ct];have hw:aj .i64 (t+(a.methods[j].nodes.length:Int))=t+(a.methods[j].nodes.length:Int):=jT (by omega) (by omega);rw[hw];by_cases hg:400<t+(a.methods[j].nodes.length:Int)
  ·rw[cT hg];rfl
  ·rw[Bq hg];cases aU 20 (a.methods[j].params.length:Int)
   ·cases aU 100 (a.methods[j].name.length:Int)
    ·simp only[aS,cond_false];have hs:=fun kk=>ai3 (n:=n) a.methods[j] g3 g1 (by omega) P a.r (t+(a.methods[j].nodes.length:Int)) i (j:Int) (fun(u50,u51,u52)=>Z) kk
     refine Eq.trans (hs _) ?_;cases a.methods[j].nodes.all Xi
     ·rfl
     ·simp only[cond_true,wS (show j<cb by unfold cb;omega)];exact ail a h hl P i k0 k1 Z hk0 e q (j+1) (t+(a.methods[j].nodes.length:Int)) (by omega) (by omega) (by omega) (by omega)
    ·rfl
   ·rfl
theorem F0:∀(l:List Me) (t t':Int),Ux l t=some t'→(∀m∈l,m.nodes.length<1000000000000000)→0≤t→t≤400→0≤t'∧t'≤400∧∀m∈l,m.nodes.length≤400∧m.params.length≤20∧m.nodes.all Xi=true
 |[],t,t',h,_,h0,h4=>by
  simp only[Ux,lα]at h;subst h;exact⟨h0,h4,fun m hm=>by cases hm⟩
 |m::r,t,t',h,hb,h0,h4=>by
  have hm:=hb m (lυ ..);simp only[Ux,ct]at h;have hw:aj .i64 (t+(m.nodes.length:Int))=t+(m.nodes.length:Int):=jT (by omega) (by omega);rw[hw]at h;by_cases hg:400<t+(m.nodes.length:Int)
  ·rw[cT hg]at h;cases h
  ·rw[Bq hg]at h;by_cases h20:20<(m.params.length:Int)
   ·rw[cT h20]at h;cases h
   ·rw[Bq h20]at h;cases h100:aU 100 (m.name.length:Int)with
    |true=>rw[h100]at h;cases h
    |false=>
     rw[h100]at h;simp only[cond_false]at h;cases ha:m.nodes.all Xi with
     |false=>rw[ha]at h;cases h
     |true=>
      rw[ha]at h;obtain⟨g1,g2,g3⟩:=F0 r _ t' h (fun x hx=>hb x (lψ _ hx)) (by omega) (by omega);refine⟨g1,g2,fun x hx=>?_⟩
      rcases mζ.1 hx with rfl|hx
      ·exact⟨by omega,by omega,ha⟩
      ·exact g3 x hx
theorem aim {n:Nat}(p:List Ac)(h:∀a∈p,Vl n a)(hl:p.length<1000)(k0:ab×af→R)(k1:ab×af×ah→R)(k2:pc→R)(Z W:R)(hk0:∀x,k0 x=Z)(hk1:∀x,k1 x=Z)(hk2:∀x,k2 x=W):∀(e q j:Nat) (t:Int),j+e=p.length→e<q→0≤t→t≤400→
  L_Small_1 (bv lay0.tab (n+1)) (n+1) k0 k1 k2 q (t,(j:Int),⟨p.map Ac.e⟩)=match smP (p.drop j) t with|none=>Z|some _=>W
 |0,q+1,j,t,he,_,_,_=>by
  obtain rfl:j=p.length:=by omega
  rw[D2];simp only[pt,lβ,bY,aS,List.drop_length,smP,hk2]
 |e+1,q+1,j,t,he,hq,h0,h4=>by
  have hj:j<p.length:=by omega
  have ha:=h p[j] (lι _);rw[D2,lμ hj];simp only[pt,lβ,cT (show((j:Int)<(p.length:Int)) by omega),aP,aE,aH,aG hj,be,HQ,show p[j].r.Fields=p[j].fields.map Fe.e from rfl,show p[j].r.Methods=p[j].methods.map Me.e from rfl,show p[j].r.Name=p[j].name from rfl,hk0,hk1,smP,smA,ct];by_cases hf:20<(p[j].fields.length:Int)
  ·rw[cT hf];rfl
  ·rw[Bq hf];by_cases hm:20<(p[j].methods.length:Int)
   ·rw[cT hm];rfl
   ·rw[Bq hm];cases aU 100 (p[j].name.length:Int)
    ·simp only[aS,Bool.not_false,Bool.true_and];have hs:=fun kk=>ai2 (n:=n) p[j] ha (by omega) ⟨p.map Ac.e⟩ t (j:Int) (fun(u19,u20)=>Z) kk
     refine Eq.trans (hs _) ?_;cases p[j].fields.all smF
     ·rfl
     ·have hs2:=fun kk=>ail (n:=n) p[j] ha (by omega) ⟨p.map Ac.e⟩ (j:Int) (fun(u60,u61,u62)=>Z) kk Z (fun _=>rfl) p[j].methods.length (n+1) 0 t (by omega) (by have:=ha.me;omega) h0 h4
      simp only[show((0:Nat):Int)=0 from rfl,List.drop_zero]at hs2;simp only[cond_true];refine Eq.trans (hs2 _) ?_;cases hsm:Ux p[j].methods t with
      |none=>rfl
      |some t'=>
       obtain⟨g1,g2,_⟩:=F0 _ _ _ hsm (fun m hm=>(ha.mm m hm).2.1) h0 h4;simp only[wS (show j<cb by unfold cb;omega)];exact aim p h hl k0 k1 k2 Z W hk0 hk1 hk2 e q (j+1) t' (by omega) (by omega) g1 g2
    ·rfl
theorem abB {n:Nat}(p:List Ac)(hp:p.length<n)(h:∀a∈p,Vl n a):evFn lay0.tab (n+2) 17 [pD p] []=some (.p (.bool (wj p)),[]):=by
 apply abP (n+1) ⟨p.map Ac.e⟩;unfold I2 wj;simp only[lβ,ct];by_cases hl:20<(p.length:Int)
 ·rw[cT hl];rfl
 ·rw[Bq hl];refine(aim (n:=n) p h (by omega) _ _ _ (some (.p (.bool false),[])) (some (.p (.bool true),[])) (fun _=>rfl) (fun _=>rfl) (fun _=>rfl) p.length (n+1) 0 0 (by omega) (by omega) (by omega) (by omega)).trans ?_;rw[List.drop_zero];cases smP p 0<;>rfl
theorem Ma {v:Va}(h:q0 v=true):v.I.length<1000∧v.L.length<1000:=by
 unfold q0 ct at h;simp only[lδ,bJ,lη]at h;omega
theorem abh:∀(l:List Ac) (t t':Int),smP l t=some t'→(∀a∈l,∀m∈a.methods,m.nodes.length<1000000000000000)→0≤t→t≤400→∀a∈l,SzA a
 |[],_,_,_,_,_,_,a,ha=>by cases ha
 |x::r,t,t',h,hb,h0,h4,a,ha=>by
  simp only[smP]at h;cases hx:smA x with
  |false=>rw[hx]at h;cases h
  |true=>
   rw[hx]at h;simp only[cond_true]at h;cases hs:Ux x.methods t with
   |none=>rw[hs]at h;cases h
   |some t1=>
    rw[hs]at h;obtain⟨g1,g2,g3⟩:=F0 _ _ _ hs (hb x (lυ ..)) h0 h4;rcases mζ.1 ha with rfl|ha
    ·unfold smA ct at hx;simp only[lδ,Bool.not_eq_true',iR,mγ,mη]at hx;obtain⟨q1,q2,_,q4⟩:=hx;refine⟨by omega,by omega,fun f hf=>?_,fun m hm=>?_⟩
     ·have:=q4 f hf;unfold smF at this;rw[lδ]at this;exact⟨(Ma this.2).1,(Ma this.2).2⟩
     ·obtain⟨w1,w2,w3⟩:=g3 m hm;refine⟨by omega,by omega,fun y hy=>?_⟩
      have:=mη.1 w3 y hy;unfold Xi ct at this;simp only[lδ,Bool.not_eq_true',iR,mγ]at this;exact⟨(Ma this.2.2).1,(Ma this.2.2).2,by omega⟩
    ·exact abh r t1 t' h (fun b hb'=>hb b (lψ _ hb')) g1 g2 a ha
theorem abk {n:Nat}{p:List Ac}(h:wj p=true)(hb:∀a∈p,Vl n a):tU p:=by
 unfold wj ct at h;simp only[lδ,Bool.not_eq_true',iR,mγ]at h;obtain⟨t,ht⟩:=Option.isSome_iff_exists.1 h.2;exact⟨by omega,abh p 0 t ht (fun a ha m hm=>((hb a ha).mm m hm).2.1) (by omega) (by omega)⟩
end
end Go.Ab
end
section
namespace Go.Ab
open Go
set_option maxRecDepth 100000
def adx:List Nat→List Nat→Bool
 |[],[]=>true
 |a::r,b::s=>Nat.beq a b&&adx r s
 |_,_=>false
theorem TE:∀{a b:List Nat},adx a b=true→a=b
 |[],[],_=>rfl
 |[],_::_,h=>by cases h
 |_::_,[],h=>by cases h
 |a::r,b::s,h=>by
  simp only[adx,lδ]at h;rw[lθ h.1,TE h.2]
def ER (P:Program)(k:IntKind)(t:TypeId):Bool:=match P.underlying t with|some (.int k')=>decide (k'=k)|_=>false
def vT (P:Program)(t:TypeId):Bool:=match P.underlying t with|some .string=>true|_=>false
def xL (P:Program)(t e z:Nat):Bool:=match P.underlying t with|some (.slice e')=>Nat.beq e' e&&Nat.beq (P.cellsOf e) z|_=>false
def ry (P:Program)(t:Nat)(ts:List Nat):Bool:=match P.underlying t with|some (.struct fs)=>adx (fs.toList.map (·.type)) ts|_=>false
def J8 (C:TypeId→List Da→Prop):List TypeId→List Da→Prop
 |[],xs=>xs=[]
 |t::r,xs=>∃ys zs,xs=ys++zs∧C t ys∧J8 C r zs
theorem EH {C:TypeId→List Da→Prop}:∀{fs:List Field} {xs:List Da},xy C fs xs→J8 C (fs.map (·.type)) xs
 |[],_,h=>h
 |f::r,xs,⟨ys,zs,h1,h2,h3⟩=>⟨ys,zs,h1,h2,EH h3⟩
section
variable {P:Program} {B:TypeId→Nat} {n t:Nat} {xs:List Da} {x:Da}
theorem pb {k:IntKind}(h:ER P k t=true)(hc:cp P B (n+1) t xs):∃i,xs=[.int k i]∧(Lit.int k i).wf=true:=by
 unfold ER at h;simp only[cp]at hc;split at h
 ·rename_i hu;rw[hu]at hc;have:=of_decide_eq_true h;subst this;exact hc
 ·cases h
theorem wn (h:vT P t=true)(hc:cp P B (n+1) t xs):∃s,xs=[.str s]:=by
 unfold vT at h;simp only[cp]at hc;split at h
 ·rename_i hu;rw[hu]at hc;obtain⟨s,rfl,_⟩:=hc;exact⟨s,rfl⟩
 ·cases h
theorem aez (h:vT P t=true)(hc:cp P B (n+1) t xs):∃s,xs=[.str s]∧s.length<9223372036854775808:=by
 unfold vT at h;simp only[cp]at hc;split at h
 ·rename_i hu;rw[hu]at hc;obtain⟨s,rfl,hl,_⟩:=hc;have:maxLen=9223372036854775807:=rfl;exact⟨s,rfl,by omega⟩
 ·cases h
theorem Gd {e z:Nat}(h:xL P t e z=true)(hc:cp P B (n+1) t xs):∃es,xs=[.slice z es]∧es.length≤B e∧∀x∈es,lL P (cp P B n) e x:=by
 unfold xL at h;simp only[cp]at hc;split at h
 ·rename_i hu;rw[hu]at hc;rw[lδ]at h;obtain⟨es,rfl,_,h2,h3⟩:=hc;have h4:=lθ h.1;subst h4;rw[lθ h.2];exact⟨es,rfl,h2,h3⟩
 ·cases h
theorem BN {ts:List Nat}(h:ry P t ts=true)(hc:cp P B (n+1) t xs):J8 (cp P B n) ts xs:=by
 unfold ry at h;simp only[cp]at hc;split at h
 ·rename_i hu;rw[hu]at hc;rw[←TE h];exact EH hc
 ·cases h
theorem vK {ts:List Nat}{C:TypeId→List Da→Prop}(h:ry P t ts=true)(hc:lL P C t x):∃cs,x= .agg cs∧C t cs:=by
 unfold ry at h;unfold lL at hc;split at h
 ·rename_i hu;have:nh P t=true:=by unfold nh;rw[hu]
  rw[this]at hc;exact hc
 ·cases h
theorem adc {k:IntKind}{C:TypeId→List Da→Prop}(h:ER P k t=true)(hc:lL P C t x):C t [x]:=by
 unfold ER at h;unfold lL at hc;split at h
 ·rename_i hu;have:nh P t=false:=by unfold nh;rw[hu]
  rw[this]at hc;exact hc
 ·cases h
theorem Tu {C:TypeId→List Da→Prop}(h:vT P t=true)(hc:lL P C t x):C t [x]:=by
 unfold vT at h;unfold lL at hc;split at h
 ·rename_i hu;have:nh P t=false:=by unfold nh;rw[hu]
  rw[this]at hc;exact hc
 ·cases h
end
theorem lw {α:Type}{f:α→Da}{Q:α→Prop}:∀{es:List Da},(∀x∈es,∃a,x=f a∧Q a)→∃l:List α,es=l.map f∧∀a∈l,Q a
 |[],_=>⟨[],rfl,fun _ h=>by cases h⟩
 |x::es,h=>by
  obtain⟨a,rfl,ha⟩:=h x (lυ ..);obtain⟨l,rfl,hl⟩:=lw (es:=es) fun y hy=>h y (lψ _ hy)
  refine⟨a::l,rfl,fun b hb=>?_⟩
  rcases mζ.1 hb with rfl|hb
  ·exact ha
  ·exact hl b hb
noncomputable section
abbrev Bn:TypeId→Nat:=fun _=>1048576
abbrev CT (n t:Nat)(xs:List Da):Prop:=cp prog0 Bn n t xs
abbrev DT (n t:Nat)(x:Da):Prop:=lL prog0 (cp prog0 Bn n) t x
theorem isI:ER prog0 .i64 3=true:=by kernel_rfl
theorem isS:vT prog0 9=true:=by kernel_rfl
theorem aiR:xL prog0 51 3 1=true:=by kernel_rfl
theorem aiS:xL prog0 31 9 1=true:=by kernel_rfl
theorem ahX:ry prog0 67 [3,3,9,51,31]=true:=by kernel_rfl
theorem aaq:ry prog0 69 [3,9,67,51]=true:=by kernel_rfl
theorem ae3:ry prog0 76 [9,3]=true:=by kernel_rfl
theorem ae1:ry prog0 74 [9,3,67]=true:=by kernel_rfl
theorem adO:xL prog0 70 69 8=true:=by kernel_rfl
theorem agS:xL prog0 63 76 2=true:=by kernel_rfl
theorem agQ:xL prog0 32 74 7=true:=by kernel_rfl
theorem ae2:ry prog0 72 [9,63,3,70]=true:=by kernel_rfl
theorem agR:xL prog0 42 72 4=true:=by kernel_rfl
theorem ahU:ry prog0 44 [9,32,42]=true:=by kernel_rfl
theorem ahV:xL prog0 22 44 3=true:=by kernel_rfl
theorem ae5:ry prog0 24 [22]=true:=by kernel_rfl
theorem ae4:ry prog0 47 [3,3,3]=true:=by kernel_rfl
theorem YP {n:Nat}{xs:List Da}(h:CT (n+2) 51 xs):∃l:List Int,xs=[.slice 1 (l.map iE)]∧l.length≤1048576:=by
 obtain⟨es,rfl,h1,h2⟩:=Gd aiR h;obtain⟨l,rfl,_⟩:=lw (f:=iE) (Q:=fun _=>True) (es:=es) fun x hx=>by
  obtain⟨i,e,_⟩:=pb isI (adc isI (h2 x hx));simp only[lν,and_true]at e;exact⟨i,e,trivial⟩
 exact⟨l,rfl,by simpa using h1⟩
theorem afH {n:Nat}{xs:List Da}(h:CT (n+2) 31 xs):∃l:List (List Nat),xs=[.slice 1 (l.map .str)]∧l.length≤1048576:=by
 obtain⟨es,rfl,h1,h2⟩:=Gd aiS h;obtain⟨l,rfl,_⟩:=lw (f:=Da.str) (Q:=fun _=>True) (es:=es) fun x hx=>by
  obtain⟨i,e⟩:=wn isS (Tu isS (h2 x hx));simp only[lν,and_true]at e;exact⟨i,e,trivial⟩
 exact⟨l,rfl,by simpa using h1⟩
def Va.cs (v:Va):List Da:=[.int .i64 v.k,.int .i64 v.n,.str v.s,.slice 1 (v.I.map iE),.slice 1 (v.L.map .str)]
theorem aeO {n:Nat}{xs:List Da}(h:CT (n+3) 67 xs):∃v:Va,xs=v.cs∧LBV 1048577 v:=by
 obtain⟨_,_,rfl,h1,_,_,rfl,h2,_,_,rfl,h3,_,_,rfl,h4,_,_,rfl,h5,rfl⟩:=BN ahX h;obtain⟨k,rfl,_⟩:=pb isI h1;obtain⟨m,rfl,_⟩:=pb isI h2;obtain⟨s,rfl⟩:=wn isS h3;obtain⟨I,rfl,_⟩:=YP h4;obtain⟨L,rfl,hL⟩:=afH h5;exact⟨⟨k,m,s,I,L⟩,rfl,⟨by show L.length<_;omega,by show L.length<_;omega⟩⟩
theorem agp {n:Nat}{x:Da}(h:DT (n+4) 69 x):∃a:No,x=a.e∧LBV 1048577 a.v:=by
 obtain⟨cs,rfl,g⟩:=vK aaq h;obtain⟨_,_,rfl,h1,_,_,rfl,h2,_,_,rfl,h3,_,_,rfl,h4,rfl⟩:=BN aaq g;obtain⟨k,rfl,_⟩:=pb isI h1;obtain⟨s,rfl⟩:=wn isS h2;obtain⟨v,rfl,hv⟩:=aeO h3;obtain⟨I,rfl,_⟩:=YP h4;exact⟨⟨k,s,v,I⟩,rfl,hv⟩
theorem ahL {n:Nat}{x:Da}(h:DT (n+2) 76 x):∃a:Pa,x=a.e∧a.name.length<9223372036854775808:=by
 obtain⟨cs,rfl,g⟩:=vK ae3 h;obtain⟨_,_,rfl,h1,_,_,rfl,h2,rfl⟩:=BN ae3 g;obtain⟨s,rfl,hs⟩:=aez isS h1;obtain⟨k,rfl,_⟩:=pb isI h2;exact⟨⟨s,k⟩,rfl,hs⟩
theorem ahJ {n:Nat}{x:Da}(h:DT (n+4) 74 x):∃a:Fe,x=a.e∧LBV 1048577 a.init:=by
 obtain⟨cs,rfl,g⟩:=vK ae1 h;obtain⟨_,_,rfl,h1,_,_,rfl,h2,_,_,rfl,h3,rfl⟩:=BN ae1 g;obtain⟨s,rfl⟩:=wn isS h1;obtain⟨k,rfl,_⟩:=pb isI h2;obtain⟨v,rfl,hv⟩:=aeO h3;exact⟨⟨s,k,v⟩,rfl,hv⟩
theorem ahK {n:Nat}{x:Da}(h:DT (n+6) 72 x):∃a:Me,x=a.e∧a.nodes.length≤1048576∧(∀y∈a.nodes,LBV 1048577 y.v)∧∀q∈a.params,q.name.length<9223372036854775808:=by
 obtain⟨cs,rfl,g⟩:=vK ae2 h;obtain⟨_,_,rfl,h1,_,_,rfl,h2,_,_,rfl,h3,_,_,rfl,h4,rfl⟩:=BN ae2 g;obtain⟨s,rfl⟩:=wn isS h1;obtain⟨ps,rfl,_,h2⟩:=Gd agS h2;obtain⟨k,rfl,_⟩:=pb isI h3;obtain⟨ns,rfl,hl,h4⟩:=Gd adO h4;obtain⟨ps,rfl,hq⟩:=lw (f:=Pa.e) (Q:=fun a=>a.name.length<9223372036854775808) (es:=ps) fun x hx=>ahL (h2 x hx)
 obtain⟨ns,rfl,hv⟩:=lw (f:=No.e) (Q:=fun a=>LBV 1048577 a.v) (es:=ns) fun x hx=>agp (h4 x hx)
 exact⟨⟨s,ps,k,ns⟩,rfl,by simpa using hl,hv,hq⟩
theorem aiz {n:Nat}{x:Da}(h:DT (n+8) 44 x):∃a:Ac,x=a.e∧Vl 1048577 a:=by
 obtain⟨cs,rfl,g⟩:=vK ahU h;obtain⟨_,_,rfl,h1,_,_,rfl,h2,_,_,rfl,h3,rfl⟩:=BN ahU g;obtain⟨s,rfl⟩:=wn isS h1;obtain⟨fs,rfl,hf,h2⟩:=Gd agQ h2;obtain⟨ms,rfl,hm,h3⟩:=Gd agR h3;obtain⟨fs,rfl,hv⟩:=lw (f:=Fe.e) (Q:=fun a=>LBV 1048577 a.init) (es:=fs) fun x hx=>ahJ (h2 x hx)
 obtain⟨ms,rfl,hw⟩:=lw (f:=Me.e) (Q:=fun a=>a.nodes.length≤1048576∧(∀y∈a.nodes,LBV 1048577 y.v)∧∀q∈a.params,q.name.length<9223372036854775808) (es:=ms) fun x hx=>ahK (h3 x hx)
 rw[lβ]at hf hm;replace hf:fs.length≤1048576:=hf;replace hm:ms.length≤1048576:=hm;exact⟨⟨s,fs,ms⟩,rfl,⟨by show fs.length<_;omega,by show ms.length<_;omega,hv,fun m hmm=>⟨by have:=(hw m hmm).1;omega,by have:=(hw m hmm).1;omega,(hw m hmm).2.1⟩,fun m hmm=>(hw m hmm).2.2⟩⟩
theorem agq {n:Nat}{x:Da}(h:DT (n+10) 24 x):∃p:List Ac,.p x=pD p∧p.length<1048577∧∀a∈p,Vl 1048577 a:=by
 obtain⟨cs,rfl,g⟩:=vK ae5 h;obtain⟨_,_,rfl,h1,rfl⟩:=BN ae5 g;obtain⟨ts,rfl,hl,h1⟩:=Gd ahV h1;obtain⟨p,rfl,hp⟩:=lw (f:=Ac.e) (Q:=fun a=>Vl 1048577 a) (es:=ts) fun x hx=>aiz (h1 x hx)
 rw[lβ]at hl;replace hl:p.length≤1048576:=hl;exact⟨p,rfl,by omega,hp⟩
theorem adb {n:Nat}{x:Da}(h:DT (n+2) 47 x):∃a:aK,x=a.e:=by
 obtain⟨cs,rfl,g⟩:=vK ae4 h;obtain⟨_,_,rfl,h1,_,_,rfl,h2,_,_,rfl,h3,rfl⟩:=BN ae4 g;obtain⟨a,rfl,_⟩:=pb isI h1;obtain⟨b,rfl,_⟩:=pb isI h2;obtain⟨c,rfl,_⟩:=pb isI h3;exact⟨⟨a,b,c⟩,rfl⟩
theorem aeU {n:Nat}{x:Da}(h:DT (n+1) 9 x):∃s,x= .str s:=by
 obtain⟨s,e⟩:=wn isS (Tu isS h);simp only[lν,and_true]at e;exact⟨s,e⟩
end
end Go.Ab
end
section
namespace Go.Ab
open Go
set_option maxRecDepth 100000
noncomputable section
theorem abC {n:Nat}:evFn lay0.tab (n+1) 16 [] []=some (.p (.bool true),[]):=by kernel_rfl
theorem aiy (u:aK)(K:aK→R):cf u.e K=K u:=rfl
end
end Go.Ab
end
