import Derived.Test.YtlfhmmbmjkadiaaGreatDoorKg0
import Derived.Test.YtlfhmmbmjkadiaaGreatDoorOg1
import Derived.Test.YtlfhmmbmjkadiaaGreatDoorOg2
set_option linter.all false
section
namespace Go.Ab
open Go
set_option maxRecDepth 100000
noncomputable section
theorem U4 {n:Nat}(xs ys:List Int)(lo len:Nat)(hl:lo+len≤xs.length)(h:len<1501):evFn lay0.tab (n+1503) 48 [.arr 0 lo len 1,.p (.slice 1 (ys.map iE))] [.arr (xs.map iE)]=some (.p (.bool (decide ((xs.drop lo).take len=ys))),[.arr (xs.map iE)]):=by
 apply Vv (n+1502) (xs.map iE) lo len (ys.map iE);have hzl:((xs.drop lo).take len).length=len:=by simp;omega
 simp only[zH,lβ,aW,co];by_cases he:len=ys.length
 ·rw[if_pos (by omega)];have hl2:((xs.drop lo).take len).length=ys.length:=by omega
  refine(aT (((xs.drop lo).take len).zip ys) (fun q i=>n7 _ (n+1502) _ _ q (lo,len,ys.map iE,(len:Int),i,xs.map iE)) (fun t=>!av t.1 t.2) (fun i=>some (.p (.bool false),[.arr (xs.map iE)])) (some (.p (.bool true),[.arr (xs.map iE)])) (fun q i hi=>?_) (fun q=>?_) (by simp only[mν];omega)).trans ?_
  ·simp only[mν]at hi;rw[w5];have hg:(xs.map iE)[lo+i]?=some (iE (((xs.drop lo).take len)[i]'(by omega))):=by
    rw[lχ,lγ (by omega)];simp
   simp only[ld,cG (show((i:Int)<(len:Int)) by omega),aO,bE,show(0:Int)≤(i:Int) by omega,decide_true,Int.toNat_natCast,hg,aE,aM,aI (show i<ys.length by omega),bf,dI,wS (show i<bT by unfold bT;omega),List.getElem_zip];exact cU _ _ _
  ·rw[w5];simp only[ld,mν,hzl,←he,Nat.min_self,bX,aR]
  ·have key:=qa av hl2 aW;cases hf:(((xs.drop lo).take len).zip ys).findIdx? (fun t=>!av t.1 t.2)with
   |none=>simp only[key.1 hf,decide_true]
   |some j=>
    have:¬(xs.drop lo).take len=ys:=fun e=>by rw[key.2 e]at hf;cases hf
    simp only[this,decide_false]
 ·rw[if_neg (by omega)];have:¬(xs.drop lo).take len=ys:=fun e=>he (by rw[←e];omega)
  simp only[this,decide_false]
theorem Ad {n:Nat}(h:n≤1501):cR n 8=true:=by
 unfold cR;rw[lδ,Nat.ble_eq,Nat.ble_eq];omega
theorem IQ {n:Nat}(ns:List No)(hkl:∀x∈ns,x.kids.length<1000000000000)(hl:ns.length<1501)(k0:LD×aG→R)(k1:fF→R)(hk0:∀a b,k0 (a,b)=some (.p (.bool false),[]))(hk1:∀a b c d e,k1 (a,b,c,d,e)=some (.p (.bool (decide (a=1))),[])):∀(e q i:Nat) (roots:List Int),i+e=ns.length→e<q→roots.length≤i→
  L_spostOrder_1 (br lay0.tab (n+1503)) (n+1503) k0 k1 q (roots.length,ns.map No.e,(ns.length:Int),(i:Int),roots.map iE)=some (.p (.bool (ea (ns.drop i) i roots)),[])
 |0,q+1,i,roots,h,_,_=>by
  obtain rfl:i=ns.length:=by omega
  rw[rk];simp only[fU,bX,aR,List.drop_length,ea,hk1]
 |e+1,q+1,i,roots,h,hq,hr=>by
  have hi:i<ns.length:=by omega
  have hx:ns[i]∈ns:=lι _;have hkx:=hkl _ hx;rw[rk,lξ hi];have hw:ag .i64 ((roots.length:Int) - ((ns[i].kids.map iE).length:Int))=(roots.length:Int) - (ns[i].kids.length:Int):=by
   rw[lβ,ig (by omega) (by omega)]
  simp only[fU,cG (show((i:Int)<(ns.length:Int)) by omega),aO,aE,aM,aI hi,bf,vZ,qb,hw,ea];by_cases hlt:roots.length<ns[i].kids.length
  ·rw[if_pos hlt,cG (by omega),aO,hk0]
  ·rw[if_neg hlt,u0 (by omega),aR];have ht:((roots.length:Int) - (ns[i].kids.length:Int)).toNat=roots.length - ns[i].kids.length:=by omega
   have happ:roots.map iE=roots.map iE:=rfl;have hm:List.take (roots.length - ns[i].kids.length - 0) (roots.map iE)++[Da.int .i64 (i:Int)]=(roots.take (roots.length - ns[i].kids.length)++[(i:Int)]).map iE:=by
    rw[List.map_append,List.map_take];rfl
   have hb:cR ((List.take (roots.length - ns[i].kids.length - 0) (roots.map iE)).length+[Da.int .i64 (i:Int)].length) 8=true:=Ad (by simp;omega);have hv:=ab (U4 (n:=n) roots ns[i].kids (roots.length - ns[i].kids.length) (roots.length - (roots.length - ns[i].kids.length)) (by omega) (by omega));have hz:=ab (wL (n:=n) [] ns[i].kids (by simp));have hdr:(roots.drop (roots.length - ns[i].kids.length)).take (roots.length - (roots.length - ns[i].kids.length))=roots.drop (roots.length - ns[i].kids.length):=by
    rw[mθ (by simp)]
   rw[hdr]at hv;simp only[List.map_nil]at hz;have hrec:=IQ (n:=n) ns hkl hl k0 k1 hk0 hk1 e q (i+1) (roots.take (roots.length - ns[i].kids.length)++[(i:Int)]) (by omega) (by omega) (by simp;omega);simp only[bE,show(0:Int)≤(roots.length:Int) - (ns[i].kids.length:Int) by omega,show(roots.length:Int) - (ns[i].kids.length:Int)≤(roots.length:Int) by omega,decide_true,aO,ht,Nat.zero_add,hv,hz,hb,hm,lβ,ba,aD,bt,hk0,wS (show i<bT by unfold bT;omega),hrec,YR,ep];by_cases hd:roots.drop (roots.length - ns[i].kids.length)=ns[i].kids
   ·rw[if_pos hd];by_cases h0:roots.length - ns[i].kids.length=roots.length
    ·have hk:([]:List Int)=ns[i].kids:=by rw[←hd,h0,List.drop_length]
     rw[if_pos h0,if_pos hk];simp only[hd,if_true];cases Nat.blt 0 roots.length<;>rfl
    ·rw[if_neg h0,if_pos hd]
   ·rw[if_neg hd];by_cases h0:roots.length - ns[i].kids.length=roots.length
    ·have hk:¬([]:List Int)=ns[i].kids:=fun e=>hd (by rw[←e];simp)
     rw[if_pos h0,if_neg hk];simp only[hd,if_false];cases Nat.blt 0 roots.length<;>rfl
    ·rw[if_neg h0,if_neg hd]
theorem Ji {n:Nat}(ns:List No)(hkl:∀x∈ns,x.kids.length<1000000000000)(hl:ns.length<1501):evFn lay0.tab (n+1504) 176 [.p (.slice 8 (ns.map No.e))] []=some (.p (.bool (ea ns 0 [])),[]):=by
 apply J2 (n+1503) (ns.map No.e);unfold qo;rw[lβ];refine(IQ (n:=n) ns hkl hl _ _ (fun _ _=>rfl) (fun a b c d e=>?_) ns.length (n+1503) 0 [] (by omega) (by omega) (by simp)).trans rfl;show iL (av (a:Int) 1) _ _=_;rw[bw,dL,aW];congr 4;rw[decide_eq_decide];omega
theorem ug {b:Nat}:∀(r:List No) (i:Nat) (roots:List Int),i+r.length=b→fp i roots→ea r i roots=true→∀x∈r,fp b x.kids
 |[],_,_,_,_,_,x,hx=>by cases hx
 |y::r,i,roots,hb,hr,h,x,hx=>by
  simp only[ea]at h;split at h
  ·cases h
  ·split at h
   ·rename_i hlen hdrop;simp only[List.length_cons]at hb;rcases mγ.1 hx with rfl|hx
    ·intro k hk;rw[←hdrop]at hk;obtain⟨g1,g2⟩:=hr k (mξ hk);exact⟨g1,by omega⟩
    ·refine ug r (i+1) _ (by omega) ?_ h x hx;intro k hk;rcases mρ.1 hk with hk|hk
     ·obtain⟨g1,g2⟩:=hr k (mσ hk);exact⟨g1,by omega⟩
     ·simp only[List.mem_singleton]at hk;subst hk;omega
   ·cases h
structure SzN (x:No):Prop where
 iv:x.v.I.length<1501
 lv:x.v.L.length<1501
 ks:x.kids.length<1501
def fY (ns:List No):Bool:=ea ns 0 []&&(av (cE ns ((ns.length - 1:Nat):Int)) 18&&((ns.all fun x=>ci ns x&&dC x)&&bm (xW ns) 24))
theorem T0 {ns:List No}{l:List Int}(h:fp ns.length l):∀k∈l,∃y,jY ns k=some y:=by
 intro k hk;obtain⟨g1,g2⟩:=h k hk;obtain⟨j,rfl⟩:∃j:Nat,k=(j:Int):=⟨k.toNat,by omega⟩
 exact⟨_,aI (by omega)⟩
theorem yC:∀(r:List No) (i:Nat) (roots:List Int),roots.length≤i→ea r i roots=true→∀x∈r,x.kids.length≤i+r.length
 |[],_,_,_,_,x,hx=>by cases hx
 |y::r,i,roots,hl,h,x,hx=>by
  simp only[ea]at h;split at h
  ·cases h
  ·rename_i hlt;split at h
   ·rcases mγ.1 hx with rfl|hx
    ·simp only[List.length_cons];omega
    ·have:=yC r (i+1) _ (by simp;omega) h x hx;simp only[List.length_cons];omega
   ·cases h
theorem Jl {n:Nat}(ns:List No)(hs:∀x∈ns,x.kids.length<1000000000000)(hl:ns.length<1501):evFn lay0.tab (n+1509) 126 [.p (.slice 8 (ns.map No.e))] []=some (.p (.bool (fY ns)),[]):=by
 apply J4 (n+1508) (ns.map No.e);unfold qq fY;simp only[ab (Ji (n:=n+4) ns hs hl),ba,aD,aC];cases hp:ea ns 0 []with
 |false=>rfl
 |true=>
  obtain⟨k,hsub,hk1⟩:=uh ns 0 [] rfl (Nat.zero_le _) .nil hp;have hks:∀x∈ns,x.kids.length<1501:=fun x hx=>by have:=yC ns 0 [] (by simp) hp x hx;omega
  have hkk:=ug (b:=ns.length) ns 0 [] (by omega) (fun k hk=>by cases hk) hp;have hw:ag .i64 (((ns.map No.e).length:Int) - 1)=((ns.length - 1:Nat):Int):=by rw[lβ,ig (by omega) (by omega)];omega
  have hlt:ns.length - 1<ns.length:=by omega
  simp only[hw,aO,aE,aM,aI hlt,bf,vZ,uc,cE,Option.map_some,Option.getD_some,Bool.true_and];cases av ns[ns.length - 1].op 18 with
  |false=>rfl
  |true=>
   simp only[Bool.not_true,aR,Bool.true_and,lβ];refine(aT ns (fun q i=>jr _ (n+1508) _ _ q (ns.map No.e,ns.map No.e,(ns.length:Int),i)) (fun x=>!(ci ns x&&dC x)) (fun i=>some (.p (.bool false),[])) (some (.p (.bool (bm (xW ns) 24)),[])) (fun q i hi=>?_) (fun q=>?_) (by omega)).trans ?_
   ·rw[rn];have hx:ns[i]∈ns:=lι _;have e1:=ab (abH (n:=n+3) ns ns[i] (T0 (hkk _ hx)) (hks _ hx));have e2:=ab (MT (n:=n+1) ns[i]);simp only[No.e]at e1 e2;simp only[fV,cG (show((i:Int)<(ns.length:Int)) by omega),aO,aE,aM,aI hi,bf,vZ,wS (show i<bT by unfold bT;omega),e1,e2,ba,aD,aC];cases ci ns ns[i]<;>cases dC ns[i]<;>rfl
   ·rw[rn];simp only[fV,bX,aR,ab (U7 (n:=n+5) ns (by omega) hkk hks hl),ba,bz,aC,bw,dL]
   ·rw[dQ];cases ns.findIdx? fun x=>!(ci ns x&&dC x)<;>rfl
def em (f:Fe):Bool:=cK f.name&&(gB f.kind&&(av f.init.k f.kind&&(uy f.init&&(!av f.init.n (-9223372036854775808)&&!f.init.I.any fun x=>av (-9223372036854775808) x))))
structure SzF (f:Fe):Prop where
 iv:f.init.I.length<1501
 lv:f.init.L.length<1501
theorem GB {n:Nat}(f:Fe):evFn lay0.tab (n+1507) 124 [.p f.e] []=some (.p (.bool (em f)),[]):=by
 apply GU (n+1506) f.r;have h1:=ab (mz (n:=n) f.name);have h2:=ab (tO (n:=n+1505) f.kind);have h3:=ab (MV (n:=n+3) f.init);simp only[Va.c]at h3;by_cases hi:f.init.I.length<1501
 ·have h4:=ab (Xy (n:=n+2) f.init.I (-9223372036854775808) hi);simp only[kD,show f.r.Name=f.name from rfl,show f.r.Kind=f.kind from rfl,show f.r.Init_Kind=f.init.k from rfl,show f.r.Init_N=f.init.n from rfl,show f.r.Init_S=f.init.s from rfl,show f.r.Init_I=f.init.I.map iE from rfl,show f.r.Init_L=f.init.L.map .str from rfl,h1,h2,h3,h4,ba,aD,aC,bw,Y9,gD,afG,Bool.not_not,Bool.and_true,em]
 ·have hv:uy f.init=false:=by
   cases h:uy f.init with
   |false=>rfl
   |true=>
    unfold uy xp ga at h;simp only[lδ,Bool.not_eq_true',qδ,lQ,mα]at h;omega
  simp only[kD,show f.r.Name=f.name from rfl,show f.r.Kind=f.kind from rfl,show f.r.Init_Kind=f.init.k from rfl,show f.r.Init_N=f.init.n from rfl,show f.r.Init_S=f.init.s from rfl,show f.r.Init_I=f.init.I.map iE from rfl,show f.r.Init_L=f.init.L.map .str from rfl,h1,h2,h3,hv,ba,aD,aC,bw,Y9,gD,afG,Bool.not_not,Bool.and_true,em];first|done|(cases cK f.name<;>cases gB f.kind<;>cases av f.init.k f.kind<;>rfl)
def pM (m:Me):Bool:=cK m.name&&(!aX 4 (m.params.length:Int)&&((!(!av m.result 0)||gB m.result)&&m.params.all fun p=>cK p.name&&gB p.kind))
theorem DF {n:Nat}(m:Me):evFn lay0.tab (n+1507) 125 [.p m.e] []=some (.p (.bool (pM m)),[]):=by
 apply Ez (n+1506) m.r;have h1:=ab (mz (n:=n) m.name);have h2:=ab (tO (n:=n+1505) m.result);by_cases hp:m.params.length<1501;case neg=>
  have h4:aX 4 (m.params.length:Int)=true:=cG (by omega);simp only[iX,show m.r.Name=m.name from rfl,show m.r.Params=m.params.map Pa.e from rfl,show m.r.Result=m.result from rfl,lβ,h4,h1,h2,ba,aD,aC,pM];cases cK m.name<;>rfl
 have hl:dw (br lay0.tab (n+1506)) (n+1506) (fun u22=>some (.p (.bool false),[])) (fun(l23,i24,i25)=>some (.p (.bool true),[])) (n+1506) (m.params.map Pa.e,(m.params.length:Int),0)=some (.p (.bool (m.params.all fun p=>cK p.name&&gB p.kind)),[]):=by
  refine(aT m.params (fun q i=>dw _ (n+1506) _ _ q (m.params.map Pa.e,(m.params.length:Int),i)) (fun p=>!(cK p.name&&gB p.kind)) (fun i=>some (.p (.bool false),[])) (some (.p (.bool true),[])) (fun q i hi=>?_) (fun q=>?_) (by omega)).trans ?_
  ·rw[ou];simp only[ei,cG (show((i:Int)<(m.params.length:Int)) by omega),aO,aE,aM,aI hi,bf,dPa,show ∀p:Pa,p.r.Name=p.name from fun _=>rfl,show ∀p:Pa,p.r.Kind=p.kind from fun _=>rfl,wS (show i<bT by unfold bT;omega),ab (mz (n:=n) m.params[i].name),ab (tO (n:=n+1505) m.params[i].kind),ba,aD,aC];cases cK m.params[i].name<;>cases gB m.params[i].kind<;>rfl
  ·rw[ou];simp only[ei,bX,aR]
  ·rw[dQ];cases m.params.findIdx? fun p=>!(cK p.name&&gB p.kind)<;>rfl
 simp only[iX,show m.r.Name=m.name from rfl,show m.r.Params=m.params.map Pa.e from rfl,show m.r.Result=m.result from rfl,lβ,hl,h1,h2,ba,aD,aC,pM];cases cK m.name<;>cases aX 4 (m.params.length:Int)<;>cases av m.result 0<;>cases gB m.result<;>rfl
structure aiX (m:Me):Prop where
 ps:m.params.length<1501
 ns:m.nodes.length<1501
 nx:∀x∈m.nodes,SzN x
structure SzA (a:Ac):Prop where
 fl:a.fields.length<1501
 me:a.methods.length<1501
 ff:∀f∈a.fields,SzF f
 mm:∀m∈a.methods,aiX m
theorem Xx {n:Nat}(fs:List Fe)(h:fs.length<1501):evFn lay0.tab (n+1510) 122 [.p (.slice 7 (fs.map Fe.e)),.p (.fn 123 [])] []=some (.p (.bool (fs.any fun f=>!em f)),[]):=by
 have h1:∀f∈fs,evFn lay0.tab (n+1508) 123 [.p f.e] []=some (.p (.bool (!em f)),[]):=by
  intro f hm;apply Vz (n+1507) f.r;have:=ab (GB (n:=n) f);simp only[Fe.e]at this;simp only[zL,this,ba,aD,aC,bw,Y9]
 have hi:evFn lay0.tab (n+1509) 100 [.p (.slice 7 (fs.map Fe.e)),.p (.fn 123 [])] []=some (.p (.int .i64 (jR (fs.findIdx? fun f=>!em f))),[]):=by
  apply abR (n+1508) (fs.map Fe.e);unfold Jv;rw[lβ];refine(aT fs (fun q i=>tU _ (n+1508) _ _ q (fs.map Fe.e,(fs.length:Int),i)) (fun f=>!em f) (fun i=>some (.p (.int .i64 i),[])) (some (.p (.int .i64 (-1)),[])) (fun q i hi=>?_) (fun q=>?_) (by omega)).trans ?_
  ·rw[Ep];have:=ab (h1 fs[i] (lι _));simp only[Fe.e]at this;simp only[pC,cG (show((i:Int)<(fs.length:Int)) by omega),aO,aE,aM,aI hi,bf,dFe,wS (show i<bT by unfold bT;omega),this,ba,aD,bt];exact cU _ _ _
  ·rw[Ep];simp only[pC,bX,aR]
  ·cases fs.findIdx? fun f=>!em f<;>rfl
 apply XU (n+1509) (fs.map Fe.e);unfold DQ;simp only[ab hi,ba,bz,aC];rw[←List.findIdx?_isSome];cases fs.findIdx? fun f=>!em f with
 |none=>rfl
 |some j=>simp[jR,bE,aO]
def th:List Me→Int→Option Int
 |[],t=>some t
 |m::r,t=>bif aX 1500 (ag .i64 (t+(m.nodes.length:Int)))then none else bif pM m&&fY m.nodes then th r (ag .i64 (t+(m.nodes.length:Int)))else none
def RA (a:Ac):Bool:=cK a.name&&(!aX 8 (a.fields.length:Int)&&(!aX 16 (a.methods.length:Int)&&!a.fields.any fun f=>!em f))
def zp:List Ac→Int→Option Int
 |[],t=>some t
 |a::r,t=>bif RA a then(match th a.methods t with|none=>none|some t=>zp r t)else none
def cB (p:List Ac):Bool:=!aX 8 (p.length:Int)&&(zp p 0).isSome
structure GM (b:Nat)(a:Ac):Prop where
 fl:a.fields.length<b
 me:a.methods.length<b
 fv:∀f∈a.fields,f.init.I.length<b∧f.init.L.length<b
 mp:∀m∈a.methods,m.params.length<b∧m.nodes.length<b∧∀x∈m.nodes,x.kids.length<b∧x.v.I.length<b∧x.v.L.length<b
theorem qT:∀(l:List Me) (t t':Int),th l t=some t'→(∀m∈l,m.nodes.length<1000000000000)→0≤t→t≤1500→0≤t'∧t'≤1500∧∀m∈l,m.nodes.length≤1500
 |[],t,t',h,_,h0,h1=>by
  simp only[th,lα]at h;subst h;exact⟨h0,h1,fun m hm=>by cases hm⟩
 |m::r,t,t',h,hb,h0,h1=>by
  have hm:=hb m (lυ ..);simp only[th]at h;have hw:ag .i64 (t+(m.nodes.length:Int))=t+(m.nodes.length:Int):=ig (by omega) (by omega);rw[hw]at h;by_cases hg:1500<t+(m.nodes.length:Int)
  ·rw[cG hg]at h;cases h
  ·rw[u0 hg]at h;simp only[cond_false]at h;cases ha:pM m&&fY m.nodes with
   |false=>rw[ha]at h;cases h
   |true=>
    rw[ha]at h;obtain⟨g1,g2,g3⟩:=qT r _ t' h (fun x hx=>hb x (lψ _ hx)) (by omega) (by omega);refine⟨g1,g2,fun x hx=>?_⟩
    rcases mγ.1 hx with rfl|hx
    ·omega
    ·exact g3 x hx
theorem UQ {n:Nat}(a b:Int)(l:LD)(ml:List Me)(hm:∀m∈ml,m.nodes.length<1000000000000∧∀x∈m.nodes,x.kids.length<1000000000000)(hl:ml.length<1501)(k0:ah→R)(k1:mM→R)(Z:R)(hk0:∀a,k0 a=Z):∀(e q j:Nat) (t:Int),j+e=ml.length→e<q→0≤t→t≤1500→
  L_sValid_2 (br lay0.tab (n+1510)) (n+1510) k0 k1 q (t,l,a,b,ml.map Me.e,(ml.length:Int),(j:Int))=match th (ml.drop j) t with|none=>Z|some t=>k1 (t,l,a,b,ml.map Me.e,(ml.length:Int),(ml.length:Int))
 |0,q+1,j,t,h,_,_,_=>by
  obtain rfl:j=ml.length:=by omega
  rw[Bq];simp only[mW,bX,aR,List.drop_length,th]
 |e+1,q+1,j,t,h,hq,h0,h1=>by
  have hj:j<ml.length:=by omega
  obtain⟨hx1,hx2⟩:=hm ml[j] (lι _);have e1:=ab (DF (n:=n+3) ml[j]);simp only[Me.e]at e1;have hw:ag .i64 (t+(ml[j].nodes.length:Int))=t+(ml[j].nodes.length:Int):=ig (by omega) (by omega);rw[Bq,lξ hj];simp only[mW,cG (show((j:Int)<(ml.length:Int)) by omega),aO,aE,aM,aI hj,bf,QB,wS (show j<bT by unfold bT;omega),e1,show ml[j].r.Nodes=ml[j].nodes.map No.e from rfl,lβ,ba,aD,aC,hk0,th,hw];by_cases hg:1500<t+(ml[j].nodes.length:Int)
  ·rw[cG hg];rfl
  ·rw[u0 hg];have e2:=ab (Jl (n:=n+1) ml[j].nodes hx2 (by omega));simp only[e2,ba,aD,aC,aR,cond_false];cases pM ml[j]
   ·rfl
   ·cases fY ml[j].nodes
    ·rfl
    ·exact UQ a b l ml hm hl k0 k1 Z hk0 e q (j+1) _ (by omega) (by omega) (by omega) (by omega)
theorem UR {n b:Nat}(p:List Ac)(hp:∀a∈p,GM b a)(hb:b≤1000000000000)(hl:p.length<1501)(k0:ae→R)(k1:ah→R)(k2:mL→R)(Z:R)(hk0:∀a,k0 a=Z)(hk1:∀a,k1 a=Z)(W:R)(hk2:∀a b c d,k2 (a,b,c,d)=W):∀(e q j:Nat) (t:Int),j+e=p.length→e<q→0≤t→t≤1500→
  L_sValid_1 (br lay0.tab (n+1510)) (n+1510) k0 k1 k2 q (t,p.map Ac.e,(p.length:Int),(j:Int))=match zp (p.drop j) t with|none=>Z|some _=>W
 |0,q+1,j,t,h,_,_,_=>by
  obtain rfl:j=p.length:=by omega
  rw[Bp];simp only[mV,bX,aR,List.drop_length,zp,hk2]
 |e+1,q+1,j,t,h,hq,h0,h1=>by
  have hj:j<p.length:=by omega
  have hx:=hp p[j] (lι _);have e1:=ab (mz (n:=n+4) p[j].name);rw[Bp,lξ hj];simp only[mV,cG (show((j:Int)<(p.length:Int)) by omega),aO,aE,aM,aI hj,bf,GZ,show p[j].r.Name=p[j].name from rfl,show p[j].r.Fields=p[j].fields.map Fe.e from rfl,show p[j].r.Methods=p[j].methods.map Me.e from rfl,lβ,wS (show j<bT by unfold bT;omega),e1,ba,aD,aC,bt,hk0,zp,RA];cases cK p[j].name
  ·rfl
  by_cases hf:8<(p[j].fields.length:Int)
  ·rw[cG hf];rfl
  by_cases hm:16<(p[j].methods.length:Int)
  ·rw[u0 hf,cG hm];rfl
  rw[u0 hf,u0 hm];have hmb:∀m∈p[j].methods,m.nodes.length<1000000000000∧∀x∈m.nodes,x.kids.length<1000000000000:=fun m hm=>⟨by have:=(hx.mp m hm).2.1;omega,fun x h=>by have:=((hx.mp m hm).2.2 x h).1;omega⟩
  have e2:=ab (Xx (n:=n) p[j].fields (by omega));have hmet:=fun kk=>UQ (n:=n) (p.length:Int) (j:Int) (p.map Ac.e) p[j].methods hmb (by omega) (fun u32=>k1 u32) kk Z hk1 p[j].methods.length (n+1510) 0 t (by omega) (by omega) h0 h1
  simp only[show((0:Nat):Int)=0 from rfl,List.drop_zero]at hmet;simp only[e2,hmet,ba,aD,aC,bt,wS (show j<bT by unfold bT;omega),aO,aR,Bool.not_false,Bool.true_and];cases p[j].fields.any fun f=>!em f
  ·simp only[aO,aR,Bool.not_false,Bool.true_and,cond_true];cases hs:th p[j].methods t with
   |none=>rfl
   |some t'=>
    obtain⟨g1,g2,_⟩:=qT _ _ _ hs (fun m hm=>(hmb m hm).1) h0 h1;exact UR p hp hb hl k0 k1 k2 Z hk0 hk1 W hk2 e q (j+1) _ (by omega) (by omega) g1 g2
  ·rfl
theorem MS {n b:Nat}(p:List Ac)(hp:∀a∈p,GM b a)(hb:b≤1000000000000):evFn lay0.tab (n+1511) 84 [.p (.agg [.slice 3 (p.map Ac.e)])] []=some (.p (.bool (cB p)),[]):=by
 apply X0 (n+1510) ⟨p.map Ac.e⟩;unfold DX cB;simp only[lβ];by_cases hl:8<(p.length:Int)
 ·rw[cG hl];rfl
 ·rw[u0 hl];refine(UR (n:=n) p hp hb (by omega) _ _ _ (some (.p (.bool false),[])) (fun _=>rfl) (fun _=>rfl) (some (.p (.bool true),[])) (fun _ _ _ _=>rfl) p.length (n+1510) 0 0 (by omega) (by omega) (by omega) (by omega)).trans ?_;rw[List.drop_zero];cases zp p 0<;>rfl
theorem SzA.b {a:Ac}(h:SzA a):GM 1501 a:=⟨h.fl,h.me,fun f hf=>⟨(h.ff f hf).iv,(h.ff f hf).lv⟩,fun m hm=>⟨(h.mm m hm).ps,(h.mm m hm).ns,fun x hx=>⟨((h.mm m hm).nx x hx).ks,((h.mm m hm).nx x hx).iv,((h.mm m hm).nx x hx).lv⟩⟩⟩
theorem Ts {ns:List No}(h:fY ns=true):Dv ns:=by
 unfold fY at h;simp only[lδ,mζ]at h;obtain⟨hp,_,hall,_⟩:=h;have hkk:=ug (b:=ns.length) ns 0 [] (by omega) (fun k hk=>by cases hk) hp;have hc:∀x∈ns,ci ns x=true:=fun x hx=>(hall x hx).1
 refine⟨uh ns 0 [] rfl (Nat.zero_le _) .nil hp,fun x hx=>⟨fun ho=>?_,fun ho=>?_⟩,fun x hx ho k hk y hy=>?_⟩
 ·have:=hc x hx;rcases ho with h|h|h|h|h|h|h<;>(unfold ci at this;rw[h]at this;simp only[aW,ej,OG,bE,lδ,lη,Int.reduceEq,decide_false,decide_true,cond_true,cond_false]at this;omega)
 ·have:=hc x hx;unfold ci at this;rw[ho]at this;simp only[aW,ej,OG,bE,lδ,lη,Int.reduceEq,decide_false,decide_true,cond_true,cond_false]at this;omega
 ·have:=hc x hx;have ha:dJ ns x 0 td=true:=by
   rcases ho with h|h<;>(unfold ci at this;rw[h]at this;simp only[aW,lδ,Int.reduceEq,decide_false,decide_true,cond_true,cond_false]at this;exact this.2)
  unfold dJ at ha;rw[List.drop_zero,mζ]at ha;have:=ha k hk;unfold cE at this;rw[hy]at this;simp only[Option.map_some,Option.getD_some,td,dY,Ag,bE,aW,mψ,lδ,lη]at this;omega
theorem Sn:∀(ml:List Me) (t t':Int),th ml t=some t'→∀m∈ml,fY m.nodes=true∧pM m=true
 |[],_,_,_,m,hm=>by cases hm
 |x::r,t,t',h,m,hm=>by
  simp only[th]at h;cases h1:aX 1500 (ag .i64 (t+(x.nodes.length:Int)))with
  |true=>rw[h1]at h;simp at h
  |false=>
   cases h2:pM x&&fY x.nodes with
   |false=>rw[h1,h2]at h;simp at h
   |true=>
    rw[h1,h2]at h;simp only[cond_true,cond_false]at h;rcases mγ.1 hm with rfl|hm
    ·rw[lδ]at h2;exact⟨h2.2,h2.1⟩
    ·exact Sn r _ _ h m hm
theorem SZ:∀(p:List Ac) (t t':Int),zp p t=some t'→∀a∈p,RA a=true∧∀m∈a.methods,fY m.nodes=true∧pM m=true
 |[],_,_,_,a,ha=>by cases ha
 |x::r,t,t',h,a,ha=>by
  simp only[zp]at h;cases h1:RA x with
  |false=>rw[h1]at h;simp at h
  |true=>
   rw[h1]at h;simp only[cond_true]at h;cases h2:th x.methods t with
   |none=>rw[h2]at h;cases h
   |some t1=>
    rw[h2]at h;rcases mγ.1 ha with rfl|ha
    ·exact⟨h1,Sn _ _ _ h2⟩
    ·exact SZ r _ _ h a ha
theorem Qw {p:List Ac}(h:cB p=true):p.length≤8∧∀a∈p,∀m∈a.methods,Dv m.nodes∧m.params.length≤4:=by
 unfold cB at h;simp only[lδ,Bool.not_eq_true',lQ,mα]at h;obtain⟨h1,h2⟩:=h;refine⟨by omega,fun a ha m hm=>?_⟩
 obtain⟨t,ht⟩:=Option.isSome_iff_exists.1 h2;obtain⟨g1,g2⟩:=(SZ p 0 t ht a ha).2 m hm;refine⟨Ts g1,?_⟩;unfold pM at g2;simp only[lδ,Bool.not_eq_true',lQ,mα]at g2;omega
theorem MB {v:Va}(h:uy v=true):v.I.length<1501∧v.L.length<1501:=by
 unfold uy xp ga at h;simp only[lδ,Bool.not_eq_true',qδ,lQ,mα]at h;omega
theorem Mo {v w:Va}(hi:w.I=[])(hl:w.L=[])(h:gb v w=true):v.I.length<1501∧v.L.length<1501:=by
 unfold gb at h;simp only[lδ,lη]at h;rw[h.2.2.2.1,h.2.2.2.2,hi,hl];simp
theorem ZE {x:No}(h:dC x=true):x.v.I.length<1501∧x.v.L.length<1501:=by
 cases h1:uy x.v with
 |true=>exact MB h1
 |false=>
 cases h2:gb x.v v0 with
 |true=>exact Mo rfl rfl h2
 |false=>
 cases h3:gb x.v ⟨0,0,x.v.s,[],[]⟩with
 |true=>exact Mo rfl rfl h3
 |false=>
 cases h4:gb x.v ⟨x.v.k,0,[],[],[]⟩with
 |true=>exact Mo rfl rfl h4
 |false=>
  unfold dC TB gA at h;simp only[h1,h2,h3,h4,cond_false,Bool.cond_self,Bool.false_eq_true]at h
theorem aci {ns:List No}(hl:ns.length≤1500)(h:fY ns=true):∀x∈ns,SzN x:=by
 unfold fY at h;simp only[lδ,mζ]at h;obtain⟨hp,_,hall,_⟩:=h;intro x hx;have h1:=ZE (hall x hx).2;have h2:=yC ns 0 [] (by simp) hp x hx;exact⟨h1.1,h1.2,by omega⟩
theorem UL {b:Nat}(hb:b≤1000000000000):∀(p:List Ac) (t t':Int),zp p t=some t'→(∀a∈p,GM b a)→0≤t→t≤1500→∀a∈p,SzA a
 |[],_,_,_,_,_,_,a,ha=>by cases ha
 |x::r,t,t',h,hz,h0,h1,a,ha=>by
  simp only[zp]at h;cases hx:RA x with
  |false=>rw[hx]at h;cases h
  |true=>
   rw[hx]at h;simp only[cond_true]at h;cases hs:th x.methods t with
   |none=>rw[hs]at h;cases h
   |some t1=>
    rw[hs]at h;have zx:=hz x (lυ ..);obtain⟨g1,g2,g3⟩:=qT _ _ _ hs (fun m hm=>by have:=(zx.mp m hm).2.1;omega) h0 h1;rcases mγ.1 ha with rfl|ha
    ·have hm:=Sn _ _ _ hs;unfold RA at hx;simp only[lδ,Bool.not_eq_true',lQ,mα,qθ]at hx;obtain⟨_,q1,q2,q3⟩:=hx;refine⟨by omega,by omega,fun f hf=>?_,fun m hm'=>?_⟩
     ·have hv:em f=true:=by simpa using q3 f hf
      unfold em at hv;simp only[lδ]at hv;exact⟨(MB hv.2.2.2.1).1,(MB hv.2.2.2.1).2⟩
     ·obtain⟨w1,w2⟩:=hm m hm';unfold pM at w2;simp only[lδ,Bool.not_eq_true',lQ,mα]at w2;exact⟨by omega,by have:=g3 m hm';omega,aci (g3 m hm') w1⟩
    ·exact UL hb r _ _ h (fun y hy=>hz y (lψ _ hy)) g1 g2 a ha
theorem I6 {b:Nat}{p:List Ac}(h:cB p=true)(hz:∀a∈p,GM b a)(hb:b≤1000000000000):p.length<1501∧∀a∈p,SzA a:=by
 unfold cB at h;simp only[lδ,Bool.not_eq_true',lQ,mα]at h;obtain⟨t,ht⟩:=Option.isSome_iff_exists.1 h.2;exact⟨by omega,UL hb p 0 t ht hz (by omega) (by omega)⟩
end
end Go.Ab
end
section
namespace Go.Ab
open Go
set_option maxRecDepth 100000
noncomputable section
theorem wBr {i:Nat}(h:i<9223372036854775807):ag .i64 ((i:Int)+1)=((i+1:Nat):Int):=by
 rw[ig (by omega) (by omega)];omega
theorem Dy {n:Nat}(c:Int):evFn lay0.tab (n+1) 145 [.p (.int .u8 c)] []=some (.p (.bool (Oe c)),[]):=by
 apply Rj n c;simp only[vD,bw,dL,gD,Bool.and_true,Oe]
theorem MN {n:Nat}(c:Int):evFn lay0.tab (n+1) 142 [.p (.int .u8 c)] []=some (.p (.bool (AL c)),[]):=by
 apply Nu n c;unfold rM pa AL;cases bm 97 c<;>cases bm c 122<;>cases bm 65 c<;>cases bm c 90<;>cases av c 95<;>rfl
theorem UY {n:Nat}(c:Int):evFn lay0.tab (n+2) 143 [.p (.int .u8 c)] []=some (.p (.bool (Qy c)),[]):=by
 apply Vm (n+1) c;simp only[zD,ab (MN (n:=n) c),ab (Dy (n:=n) c),ba,aD,aC,bw,dL,V0,Bool.or_false,Qy]
theorem Dx {n:Nat}(s:List Nat):evFn lay0.tab (n+1) 144 [.p (.str s)] []=some (.p (.bool (WB s)),[]):=by
 apply Et n s;simp only[mE,bw,dL,V0,WB,List.any_cons,List.any_nil,Bool.or_false]
def UI (s:List Nat):Bool:=match s with
 |[]=>false
 |c::_=>bm s.length 32&&(!Oe (c:Int)&&!WB s)
def aaY (s:List Nat):Bool:=(s.findIdx? Ui).isNone&&UI s
theorem adC {c:Int}(h:AL c=true):Oe c=false:=by
 unfold AL at h;unfold Oe;simp only[bE,aW,mψ,lδ,lη]at h;simp only[bE,Bool.and_eq_false_iff,mα];omega
theorem adN (s:List Nat):aaY s=cK s:=by
 cases s with
 |nil=>rfl
 |cons c r=>
  unfold aaY UI cK US ad4;simp only[List.headD_cons,show aN (c::r) []=false from rfl,Bool.not_false,Bool.true_and];have key:av (((bif AL (c:Int)then((c::r).findIdx? Ui).getD (c::r).length else 0:Nat)):Int) ((c::r).length:Int)=(AL (c:Int)&&((c::r).findIdx? Ui).isNone):=by
   rw[aW];cases AL (c:Int)with
   |false=>simp;omega
   |true=>
    cases hf:(c::r).findIdx? Ui with
    |none=>simp
    |some j=>
     have:=(lτ.1 hf).1;simp at this ⊢
     omega
  rw[key];cases hf:(c::r).findIdx? Ui with
  |some j=>simp
  |none=>
   have h0:Ui c=false:=mω.1 hf c (lυ ..);unfold Ui Qy at h0;cases hl:AL (c:Int)with
   |true=>simp[adC hl]
   |false=>
    rw[hl]at h0;simp only[Bool.false_or,Bool.not_eq_false']at h0;simp[h0]
theorem iJ {n:Nat}(s:List Nat)(h:s.length<n)(hb:s.length<9223372036854775808):evFn lay0.tab (n+3) 156 [.p (.str s)] []=some (.p (.bool (cK s)),[]):=by
 apply Nt (n+2) s;rw[←adN];unfold rL;refine(aT s (fun q i=>kF _ (n+2) _ _ q (s,i)) Ui (fun _=>some (.p (.bool false),[])) (some (.p (.bool (UI s)),[])) (fun q i hi=>?_) (fun q=>?_) (by omega)).trans ?_
 ·rw[sg];simp only[gW,cG (show((i:Int)<(s.length:Int)) by omega),aO,bE,show(0:Int)≤(i:Int) by omega,decide_true,cond_true,Int.toNat_natCast,lγ hi,bf,wBr (show i<9223372036854775807 by omega),show ∀k:Nat,Int.ofNat k=(k:Int)from fun _=>rfl,ab (UY (n:=n) _),ba,aD,aC];unfold Ui;cases Qy (s[i]:Int)<;>rfl
 ·rw[sg];simp only[gW,bX,aR];cases s with
  |nil=>rfl
  |cons c r=>
   have h1:bm 1 ((c::r).length:Int)=true:=by rw[bE];simp;omega
   simp only[h1,aO,show bm 0 0=true from rfl,cond_true,Int.toNat_zero,List.getElem?_cons_zero,bf,show ∀k:Nat,Int.ofNat k=(k:Int)from fun _=>rfl,ab (Dy (n:=n+1) _),ab (Dx (n:=n+1) _),ba,aD,aC,bw,Y9,afG,gD,Bool.and_true,UI]
 ·unfold aaY;cases s.findIdx? Ui<;>rfl
theorem qd {n:Nat}(xs ys:List Int)(h:xs.length<n)(hb:xs.length<9223372036854775808):evFn lay0.tab (n+1) 50 [.p (.slice 1 (xs.map iE)),.p (.slice 1 (ys.map iE))] []=some (.p (.bool (decide (xs=ys))),[]):=by
 apply JZ n (xs.map iE) (ys.map iE);simp only[qk,lβ,aW,co];by_cases hl:xs.length=ys.length
 ·rw[if_pos (by omega)];refine(aT (xs.zip ys) (fun q i=>jo _ n _ _ q (xs.map iE,ys.map iE,i)) (fun t=>!av t.1 t.2) (fun i=>some (.p (.bool false),[])) (some (.p (.bool true),[])) (fun q i hi=>?_) (fun q=>?_) (by simp[mν];omega)).trans ?_
  ·simp only[mν]at hi;rw[rf];simp only[fQ,lβ,cG (show((i:Int)<(xs.length:Int)) by omega),aO,aE,aM,aI (show i<xs.length by omega),aI (show i<ys.length by omega),bf,dI,wBr (show i<9223372036854775807 by omega),List.getElem_zip];exact cU _ _ _
  ·rw[rf];simp only[fQ,lβ,mν,hl,Nat.min_self,bX,aR]
  ·have key:=qa av hl aW;cases hf:(xs.zip ys).findIdx? (fun t=>!av t.1 t.2)with
   |none=>simp[key.1 hf]
   |some j=>
    have:¬xs=ys:=fun e=>by rw[key.2 e]at hf;cases hf
    simp[this]
 ·rw[if_neg (by omega)];have:¬xs=ys:=fun e=>hl (by rw[e])
  simp[this]
theorem B7 {n:Nat}(xs ys:List (List Nat))(h:xs.length<n)(hb:xs.length<9223372036854775808):evFn lay0.tab (n+1) 80 [.p (.slice 1 (xs.map .str)),.p (.slice 1 (ys.map .str))] []=some (.p (.bool (decide (xs=ys))),[]):=by
 apply Cf n (xs.map .str) (ys.map .str);simp only[lE,lβ,aW,co];by_cases hl:xs.length=ys.length
 ·rw[if_pos (by omega)];refine(aT (xs.zip ys) (fun q i=>fy _ n _ _ q (xs.map .str,ys.map .str,i)) (fun t=>!aN t.1 t.2) (fun i=>some (.p (.bool false),[])) (some (.p (.bool true),[])) (fun q i hi=>?_) (fun q=>?_) (by simp[mν];omega)).trans ?_
  ·simp only[mν]at hi;rw[mP];simp only[dO,lβ,cG (show((i:Int)<(xs.length:Int)) by omega),aO,aE,aM,aI (show i<xs.length by omega),aI (show i<ys.length by omega),bf,EP,wBr (show i<9223372036854775807 by omega),List.getElem_zip];exact cU _ _ _
  ·rw[mP];simp only[dO,lβ,mν,hl,Nat.min_self,bX,aR]
  ·have key:=qa aN hl de;cases hf:(xs.zip ys).findIdx? (fun t=>!aN t.1 t.2)with
   |none=>simp[key.1 hf]
   |some j=>
    have:¬xs=ys:=fun e=>by rw[key.2 e]at hf;cases hf
    simp[this]
 ·rw[if_neg (by omega)];have:¬xs=ys:=fun e=>hl (by rw[e])
  simp[this]
theorem kC {n:Nat}(a b:Va)(hi:a.I.length<n)(hl:a.L.length<n)(bi:a.I.length<9223372036854775808)(bl:a.L.length<9223372036854775808):evFn lay0.tab (n+2) 45 [.p (.agg a.c),.p (.agg b.c)] []=some (.p (.bool (gb a b)),[]):=by
 apply GS (n+1) a.r b.r;unfold oV;have h1:=ab (qd (n:=n) a.I b.I hi bi);have h2:=ab (B7 (n:=n) a.L b.L hl bl);simp only[Va.r,h1,h2,ba,aD,aC,bw,dL,gD,gb,Bool.and_true]
def bR1 (v:Va):Bool:=(!av v.k 1&&(!av v.k 2&&!av v.n 0))||((!av v.k 3&&!aN v.s [])||((!av v.k 4&&aX 0 (ga v.I))||(!av v.k 5&&aX 0 (ga v.L))))
def bR2 (v:Va):Bool:=aX v.k 0||(aX 5 v.k||((av v.k 2&&(!av v.n 0&&!av v.n 1))||(aX 64 (ga v.s)||(aX 16 (ga v.I)||aX 16 (ga v.L)))))
theorem ahG (v:Va):(!bR1 v&&(!bR2 v&&v.L.all fun t=>!aX 64 (ga t)))=uy v:=by
 unfold uy bR1 bR2 H6 H7 To xp;have h12:av v.k 1=true→av v.k 2=false:=by simp only[aW,lη,mα];omega
 have hn:av v.n 0=true→av v.n 1=false:=by simp only[aW,lη,mα];omega
 revert h12 hn
 generalize(v.L.all fun t=>!aX 64 (ga t))=w;cases av v.k 1<;>cases av v.k 2<;>cases av v.n 0<;>cases av v.n 1<;>simp<;>
 cases av v.k 3<;>cases av v.k 4<;>cases av v.k 5<;>cases aN v.s []<;>cases aX 0 (ga v.I)<;>cases aX 0 (ga v.L)<;>simp<;>cases aX v.k 0<;>cases aX 5 v.k<;>simp
section
variable (cc:af) (n:Nat) (k0:Bool×aP→R) (v:Va)
theorem rv1:gm cc n k0 v.r=k0 (bR1 v,v.r):=by
 unfold gm gl kf bR1 ga;simp only[Va.r,lβ];cases av v.k 1<;>cases av v.k 2<;>cases av v.n 0<;>cases av v.k 3<;>cases aN v.s []<;>cases av v.k 4<;>cases aX 0 (v.I.length:Int)<;>cases av v.k 5<;>cases aX 0 (v.L.length:Int)<;>rfl
theorem rv2:gn cc n k0 v.r=k0 (bR2 v,v.r):=by
 unfold gn gj bR2 ga;simp only[Va.r,lβ];cases aX v.k 0<;>cases aX 5 v.k<;>cases av v.k 2<;>cases av v.n 0<;>cases av v.n 1<;>cases aX 64 (v.s.length:Int)<;>cases aX 16 (v.I.length:Int)<;>cases aX 16 (v.L.length:Int)<;>rfl
end
theorem rK {n:Nat}(v:Va)(h:v.L.length<n)(hb:v.L.length<9223372036854775808):evFn lay0.tab (n+1) 199 [.p (.agg v.c)] []=some (.p (.bool (uy v)),[]):=by
 apply Ey n v.r;rw[←ahG];unfold mH;simp only[rv1,rv2];have hl:ef (br lay0.tab n) n (fun u11=>some (.p (.bool false),[])) (fun(i12,u13)=>some (.p (.bool true),[])) n (0,v.r)=some (.p (.bool (v.L.all fun t=>!aX 64 (ga t))),[]):=by
  refine(aT v.L (fun q i=>ef _ n _ _ q (i,v.r)) (fun t=>aX 64 (ga t)) (fun i=>some (.p (.bool false),[])) (some (.p (.bool true),[])) (fun q i hi=>?_) (fun q=>?_) (by omega)).trans ?_
  ·rw[ot];simp only[eh,Va.r,lβ,cG (show((i:Int)<(v.L.length:Int)) by omega),aO,aE,aM,aI hi,bf,EP,wBr (show i<9223372036854775807 by omega)];exact cU _ _ _
  ·rw[ot];simp only[eh,Va.r,lβ,bX,aR]
  ·rw[sF];cases v.L.findIdx? fun t=>aX 64 (ga t)<;>rfl
 rw[hl];cases bR1 v<;>cases bR2 v<;>rfl
theorem Jc {n:Nat}(f:Fe)(hs:f.name.length<n)(hi:f.init.I.length<n)(hl:f.init.L.length<n)(bs:f.name.length<9223372036854775808)(bi:f.init.I.length<9223372036854775808)(bl:f.init.L.length<9223372036854775808):evFn lay0.tab (n+4) 157 [.p f.e] []=some (.p (.bool (em f)),[]):=by
 apply JV (n+3) f.r;unfold qh em gB;have h1:=ab (iJ (n:=n) f.name hs bs);have h2:=ab (rK (n:=n+2) f.init (by omega) bl);simp only[Va.c]at h2;have h3:fG (br lay0.tab (n+3)) (n+3) (fun u13=>some (.p (.bool false),[])) (fun(i14,u15)=>some (.p (.bool true),[])) (n+3) (0,f.r)=some (.p (.bool (!f.init.I.any fun x=>av (-9223372036854775808) x)),[]):=by
  refine(aT f.init.I (fun q i=>fG _ (n+3) _ _ q (i,f.r)) (fun x=>av x (-9223372036854775808)) (fun i=>some (.p (.bool false),[])) (some (.p (.bool true),[])) (fun q i hi=>?_) (fun q=>?_) (by omega)).trans ?_
  ·rw[q8];simp only[fJ,show ∀f:Fe,f.r.Init_I=f.init.I.map iE from fun _=>rfl,lβ,cG (show((i:Int)<(f.init.I.length:Int)) by omega),aO,aE,aM,aI hi,bf,dI,wBr (show i<9223372036854775807 by omega)];exact cU _ _ _
  ·rw[q8];simp only[fJ,show ∀f:Fe,f.r.Init_I=f.init.I.map iE from fun _=>rfl,lβ,bX,aR]
  ·rw[show(f.init.I.any fun x=>av (-9223372036854775808) x)=f.init.I.any fun x=>av x (-9223372036854775808) by congr 1;funext x;rw[aW,aW];exact decide_eq_decide.2 ⟨Eq.symm,Eq.symm⟩,←List.findIdx?_isSome];cases f.init.I.findIdx? fun x=>av x (-9223372036854775808)<;>rfl
 have hk1:bm 1 f.kind=!aX f.kind 1:=rfl;have hk5:bm f.kind 5=!aX 5 f.kind:=rfl;simp only[show f.r.Name=f.name from rfl,show f.r.Kind=f.kind from rfl,show f.r.Init_Kind=f.init.k from rfl,show f.r.Init_N=f.init.n from rfl,show f.r.Init_S=f.init.s from rfl,show f.r.Init_I=f.init.I.map iE from rfl,show f.r.Init_L=f.init.L.map .str from rfl,h1,h2,h3,ba,aD,aC,hk1,hk5];cases cK f.name<;>cases aX f.kind 1<;>cases aX 5 f.kind<;>cases av f.init.k f.kind<;>cases uy f.init<;>cases av f.init.n (-9223372036854775808)<;>rfl
end
end Go.Ab
end
section
namespace Go.Ab
open Go
set_option maxRecDepth 100000
noncomputable section
theorem q7 {n:Nat}(k:Int):evFn lay0.tab (n+1) 248 [.p (.int .i64 k)] []=some (.p (.bool (dY k)),[]):=by
 apply Cd n k;simp only[lC,bw,dL,gD,dY,Bool.and_true]
theorem DB {n:Nat}(k:Int):evFn lay0.tab (n+1) 249 [.p (.int .i64 k)] []=some (.p (.bool (CY k)),[]):=by
 apply Ev n k;simp only[mG,bw,dL,gD,CY,Bool.and_true]
theorem QN {n:Nat}(k:Int):evFn lay0.tab (n+1) 247 [.p (.int .i64 k)] []=some (.p (.bool (td k)),[]):=by
 apply Rm n k;have:td k=(bm 1 k&&bm k 7):=by
  unfold td dY Ag;rw[mδ];simp only[bE,aW,mψ,lδ,lη];omega
 simp only[vG,bw,dL,gD,Bool.and_true,this]
def adD (s:List Nat):Int:=bif aN s [124,124]then 1 else bif aN s [38,38]then 2 else bif aN s [61,61]then 3 else bif aN s [33,61]then 3 else bif aN s [60]then 3 else bif aN s [60,61]then 3 else bif aN s [62]then 3 else bif aN s [62,61]then 3 else bif aN s [43]then 4 else bif aN s [45]then 4 else bif aN s [42]then 5 else bif aN s [47]then 5 else bif aN s [37]then 5 else 0
theorem KG (a:Bool)(x y:Int):iL a (some ((.p (.int .i64 x)),[])) (some ((.p (.int .i64 y)),[]))=some ((.p (.int .i64 (bif a then x else y))),[]):=by cases a<;>rfl
theorem QM {n:Nat}(s:List Nat):evFn lay0.tab (n+1) 246 [.p (.str s)] []=some (.p (.int .i64 (adD s)),[]):=by
 apply Rl n s;simp only[vF,KG,adD]
theorem adE (s:List Nat):aX 0 (adD s)=binO.any fun t=>aN s t:=by
 have h:∀(b:Bool) (x y:Int),aX 0 (bif b then x else y)=bif b then aX 0 x else aX 0 y:=by intro b x y;cases b<;>rfl
 simp only[adD,h,binO,List.any_cons,List.any_nil,show aX 0 1=true from rfl,show aX 0 2=true from rfl,show aX 0 3=true from rfl,show aX 0 4=true from rfl,show aX 0 5=true from rfl,show aX 0 0=false from rfl,V0,Bool.or_false]
theorem zA {n:Nat}(ns:List No)(ks:List Int)(hk:∀k∈ks,∃y,jY ns k=some y)(h:ks.length<n)(hb:ks.length<9223372036854775808):evFn lay0.tab (n+2) 245 [.p (.slice 8 (ns.map No.e)),.p (.slice 1 (ks.map iE))] []=some (.p (.bool (ks.all fun k=>dY (cE ns k))),[]):=by
 apply z7 (n+1) (ns.map No.e) (ks.map iE);unfold j4;refine(aT ks (fun q i=>eI _ (n+1) _ _ q (ns.map No.e,ks.map iE,i)) (fun k=>!dY (cE ns k)) (fun i=>some (.p (.bool false),[])) (some (.p (.bool true),[])) (fun q i hi=>?_) (fun q=>?_) (by omega)).trans ?_
 ·rw[lN];obtain⟨y,hy⟩:=hk ks[i] (lι _);simp only[dz,lβ,cG (show((i:Int)<(ks.length:Int)) by omega),aO,aE,aM,aI hi,bf,dI,hy,vZ,uc,wBr (show i<9223372036854775807 by omega),ab (q7 (n:=n) y.op),ba,aD,aC,cE,Option.map_some,Option.getD_some];cases dY y.op<;>rfl
 ·rw[lN];simp only[dz,lβ,bX,aR]
 ·rw[dQ];cases ks.findIdx? fun k=>!dY (cE ns k)<;>rfl
theorem gH (x:No)(a:Int):ej x a a=av (x.kids.length:Int) a:=by
 unfold ej;rw[mδ];simp only[bE,aW,lδ,lη];omega
theorem W3 (v:Va):gb v v=true:=by
 unfold gb;simp[aW,de]
theorem IW {m:Nat}(ns:List No)(x:No)(s t:List Nat)(hk:∀k∈x.kids,∃y,jY ns k=some y)(hb:x.kids.length<9223372036854775808)(k0:LD×Int×LN×Bool×Int×aG×LN→R):∀(e q j:Nat) (b:Bool),j+e=x.kids.length→e<q→
  L_r18form_1 (br lay0.tab (m+1)) (m+1) k0 q (ns.map No.e,(x.kids.length:Int),s,b,(j:Int),x.r,t)=k0 (ns.map No.e,(x.kids.length:Int),s,b&&(x.kids.drop j).all (fun k=>CY (cE ns k)),(x.kids.length:Int),x.r,t)
 |0,q+1,j,b,h,_=>by
  obtain rfl:j=x.kids.length:=by omega
  rw[wX];simp only[k8,bX,aR,List.drop_length,List.all_nil,Bool.and_true]
 |e+1,q+1,j,b,h,hq=>by
  have hj:j<x.kids.length:=by omega
  obtain⟨y,hy⟩:=hk x.kids[j] (lι _);rw[wX,lξ hj];simp only[k8,qb,cG (show((j:Int)<(x.kids.length:Int)) by omega),aO,aE,aM,aI hj,bf,dI,hy,vZ,uc,wBr (show j<9223372036854775807 by omega),ab (DB (n:=m) y.op),ba,aD,aC,List.all_cons,cE,Option.map_some,Option.getD_some];have ih:=fun b=>IW (m:=m) ns x s t hk hb k0 e q (j+1) b (by omega) (by omega)
  cases b
  ·simp only[aR,ih,Bool.false_and]
  ·cases CY y.op
   ·simp only[aO,aR,ih,Bool.false_and,Bool.and_false]
   ·simp only[aO,ih,Bool.true_and];rfl
theorem U0 {n:Nat}(ns:List No)(x:No)(hk:∀k∈x.kids,∃y,jY ns k=some y)(h1:x.kids.length<n)(h2:x.name.length<n)(h3:x.v.s.length<n)(h4:x.v.I.length<n)(h5:x.v.L.length<n)(b1:x.kids.length<9223372036854775808)(b2:x.name.length<9223372036854775808)(b3:x.v.s.length<9223372036854775808)(b4:x.v.I.length<9223372036854775808)(b5:x.v.L.length<9223372036854775808):
  evFn lay0.tab (n+5) 201 [.p (.slice 8 (ns.map No.e)),.p x.e] []=some (.p (.bool (ci ns x&&dC x)),[]):=by
 apply Vo (n+4) (ns.map No.e) x.r;have e1:=ab (kC (n:=n+2) x.v x.v (by omega) (by omega) b4 b5);have e2:=ab (kC (n:=n+2) x.v v0 (by omega) (by omega) b4 b5);have e3:=ab (kC (n:=n+2) x.v ⟨0,0,x.v.s,[],[]⟩ (by omega) (by omega) b4 b5);have e4:=ab (kC (n:=n+2) x.v ⟨x.v.k,0,[],[],[]⟩ (by omega) (by omega) b4 b5);have e5:=ab (iJ (n:=n+1) x.name (by omega) b2);have e6:=ab (iJ (n:=n+1) x.v.s (by omega) b3);have e7:=ab (rK (n:=n+3) x.v (by omega) b5);have e8:=ab (zA (n:=n+2) ns x.kids hk (by omega) b1);have e9:=ab (QM (n:=n+3) x.name);have ex:∀(o:Int) (K:KV),br lay0.tab (n+4) 248 [.p (.int .i64 o)] [] K=K (.p (.bool (dY o))) []:=fun o=>ab (q7 (n:=n+3) o)
 have ev:∀(o:Int) (K:KV),br lay0.tab (n+4) 247 [.p (.int .i64 o)] [] K=K (.p (.bool (td o))) []:=fun o=>ab (QN (n:=n+3) o)
 simp only[Va.c,v0,List.map_nil]at e1 e2 e3 e4 e7;rw[W3]at e1;have ss:aN x.name x.name=true:=by rw[de];simp
 have eE:(x.kids.all fun k=>dY (cE ns k))=dJ ns x 0 dY:=rfl;have q1:iM (br lay0.tab (n+4)) x.r=some (.p (.bool (gb x.v v0)),[]):=by
  unfold iM cY;simp only[IH,MI,Lm,MJ,MK,e2,ba,aD,aC,bw,dL,v0]
 have q2:fI x.r (br lay0.tab (n+4))=some (.p (.bool (aN x.name [])),[]):=by
  unfold fI cY;simp only[Gy,IH,MI,Lm,MJ,MK,e1,ba,aD,aC,aO,bw,dL]
 have q4:eB (br lay0.tab (n+4)) (ns.map No.e) x.r=some (.p (.bool (dJ ns x 0 dY&&gb x.v v0)),[]):=by
  unfold eB mb;simp only[Gy,qb,e8,eE,q1,ss,aO,ba,aD,aC,bw,dL,gD,Bool.true_and]
 have q11:jt x.r (br lay0.tab (n+4))=some (.p (.bool (aN x.name []&&gb x.v v0)),[]):=by
  unfold jt;simp only[Gy,q1,bw,gD]
 have q6:iN (br lay0.tab (n+4)) (ns.map No.e) x.r=some (.p (.bool (dJ ns x 0 dY&&(aN x.name []&&gb x.v v0))),[]):=by
  unfold iN;simp only[qb,e8,eE,q11,ba,aD,aC,bw,gD]
 have q12:mc x.r (br lay0.tab (n+4))=some (.p (.bool (av (x.kids.length:Int) 0&&(aN x.name []&&gb x.v v0))),[]):=by
  unfold mc;simp only[Gy,qb,lβ,q1,bw,gD]
 have q9:kX x.r=some (.p (.bool false),[]):=by
  unfold kX;cases av x.r.Op 8<;>rfl
 unfold zF;rw[uc];by_cases o1:x.op=1
 ·simp only[o1,aW,decide_true,aO,q2,ci,dC,TB,cond_true,gH,IH,MI,Lm,MJ,MK,qb,lβ,e7,ba,aD,aC];cases decide ((x.kids.length:Int)=0)<;>cases uy x.v<;>cases decide (x.v.k=1)<;>cases bm 0 x.v.n<;>cases decide (x.v.k=2)<;>cases decide (x.v.k=3)<;>cases aN x.name []<;>rfl
 by_cases o2:x.op=2
 ·simp only[o2,aW,Int.reduceEq,decide_true,decide_false,aO,aR,cond_true,cond_false,ci,dC,gA,gH,Gy,IH,MI,Lm,MJ,MK,qb,lβ,ba,aD,bz,aC,bw,dL,gD,mb,e5,q1,ss,Bool.true_and]
 by_cases o3:x.op=3
 ·simp only[o3,aW,Int.reduceEq,decide_true,decide_false,aO,aR,cond_true,cond_false,ci,dC,gA,gH,Gy,IH,MI,Lm,MJ,MK,qb,lβ,ba,aD,bz,aC,bw,dL,gD,q12]
 by_cases o14:x.op=14
 ·simp only[o14,aW,Int.reduceEq,decide_true,decide_false,aO,aR,cond_true,cond_false,ci,dC,gA,gH,Gy,IH,MI,Lm,MJ,MK,qb,lβ,ba,aD,bz,aC,bw,dL,gD,q12]
 by_cases o4:x.op=4
 ·simp only[o4,aW,Int.reduceEq,decide_true,decide_false,aO,aR,cond_true,cond_false,ci,dC,gA,gH,Gy,IH,MI,Lm,MJ,MK,qb,lβ,ba,aD,bz,aC,bw,dL,gD,q4];cases decide ((x.kids.length:Int)=1)<;>cases aN x.name [45]<;>cases aN x.name [33]<;>cases dJ ns x 0 dY<;>rfl
 by_cases o5:x.op=5
 ·simp only[o5,aW,Int.reduceEq,decide_true,decide_false,aO,aR,cond_true,cond_false,ci,dC,gA,gH,Gy,IH,MI,Lm,MJ,MK,qb,lβ,ba,aD,bz,aC,bw,dL,gD,q4,e9,adE];cases decide ((x.kids.length:Int)=2)<;>cases(binO.any fun t=>aN x.name t)<;>cases dJ ns x 0 dY<;>rfl
 by_cases o6:x.op=6
 ·simp only[o6,aW,Int.reduceEq,decide_true,decide_false,aO,aR,cond_true,cond_false,ci,dC,gA,gH,Gy,IH,MI,Lm,MJ,MK,qb,lβ,ba,aD,bz,aC,bw,dL,gD,q4,e5,ej,show bm 0 (x.kids.length:Int)=true by rw[bE];simp];cases bm (x.kids.length:Int) 16<;>cases cK x.name<;>cases aN x.name [105,110,116,115]<;>cases aN x.name [115,116,114,105,110,103,115]<;>cases dJ ns x 0 dY<;>rfl
 by_cases o7:x.op=7
 ·simp only[o7,aW,Int.reduceEq,decide_true,decide_false,aO,aR,cond_true,cond_false,ci,dC,gA,gH,Gy,IH,MI,Lm,MJ,MK,qb,lβ,ba,aD,bz,aC,bw,dL,gD,e5,e6,e8,eE,e3,cY,ss,ej,Bool.and_true];cases bm 1 (x.kids.length:Int)<;>cases bm (x.kids.length:Int) 17<;>cases cK x.name<;>cases cK x.v.s<;>cases dJ ns x 0 dY<;>rfl
 by_cases o8:x.op=8
 ·simp only[o8,aW,Int.reduceEq,decide_true,decide_false,aO,aR,cond_true,cond_false,ci,dC,gA,gH,ov,cY,uc,Gy,IH,MI,Lm,MJ,MK,qb,lβ,e5,e4,q1,q9,ba,aD,aC,ss];by_cases hl:(x.kids.length:Int)=1
  ·obtain⟨k,hks⟩:∃k,x.kids=[k]:=by
    match hx:x.kids,hl with
    |[k],_=>exact⟨k,rfl⟩
    |[],hl=>simp at hl
    |_::_::_,hl=>simp at hl;omega
   obtain⟨y,hy⟩:=hk k (by rw[hks];exact lυ ..);have hoy:cE ns k=y.op:=by unfold cE;rw[hy];rfl
   simp only[hl,hks,show(([k]:List Int).length:Int)=1 from rfl,decide_true,aO,aE,aM,cM,bf,dI,hy,vZ,uc,ev,ba,aD,aC,o8,dJ,List.drop_zero,List.all_cons,List.all_nil,Bool.and_true,hoy,gB,Int.reduceEq,decide_false];cases cK x.name<;>cases td y.op<;>cases bm 1 x.v.k<;>cases bm x.v.k 5<;>simp only[aO,aR,bw,dL,Bool.true_and,Bool.false_and,Bool.and_true,Bool.and_false,Bool.and_self,cond_true,cond_false]
  ·simp only[hl,decide_false,aR,Bool.false_and]
 by_cases o9:x.op=9
 ·simp only[o9,aW,Int.reduceEq,decide_true,decide_false,aO,aR,cond_true,cond_false,ci,dC,gA,gH,ov,cY,uc,Gy,IH,MI,Lm,MJ,MK,qb,lβ,e5,e4,q1,q9,ba,aD,aC,ss];by_cases hl:(x.kids.length:Int)=1
  ·obtain⟨k,hks⟩:∃k,x.kids=[k]:=by
    match hx:x.kids,hl with
    |[k],_=>exact⟨k,rfl⟩
    |[],hl=>simp at hl
    |_::_::_,hl=>simp at hl;omega
   obtain⟨y,hy⟩:=hk k (by rw[hks];exact lυ ..);have hoy:cE ns k=y.op:=by unfold cE;rw[hy];rfl
   simp only[hl,hks,show(([k]:List Int).length:Int)=1 from rfl,decide_true,aO,aE,aM,cM,bf,dI,hy,vZ,uc,ev,ba,aD,aC,o9,dJ,List.drop_zero,List.all_cons,List.all_nil,Bool.and_true,hoy,Int.reduceEq,decide_false];cases cK x.name<;>cases td y.op<;>simp only[aO,aR,bw,dL,Bool.true_and,Bool.false_and,Bool.and_true,Bool.and_false,Bool.and_self,cond_true,cond_false]
  ·simp only[hl,decide_false,aR,Bool.false_and]
 by_cases o10:x.op=10
 ·simp only[o10,aW,Int.reduceEq,decide_true,decide_false,aO,aR,cond_true,cond_false,ci,dC,gA,gH,uc,qb,lβ,q11];by_cases hl:(x.kids.length:Int)=1
  ·obtain⟨k,hks⟩:∃k,x.kids=[k]:=by
    match hx:x.kids,hl with
    |[k],_=>exact⟨k,rfl⟩
    |[],hl=>simp at hl
    |_::_::_,hl=>simp at hl;omega
   obtain⟨y,hy⟩:=hk k (by rw[hks];exact lυ ..);have hoy:cE ns k=y.op:=by unfold cE;rw[hy];rfl
   simp only[hl,hks,show(([k]:List Int).length:Int)=1 from rfl,decide_true,aO,aE,aM,cM,bf,dI,hy,vZ,uc,dJ,List.drop_zero,List.all_cons,List.all_nil,Bool.and_true,hoy,Ag,aW,Bool.true_and];by_cases h7:y.op=7
   ·cases aN x.name []<;>simp[h7,aO]
   ·cases aN x.name []<;>simp[h7,aR]
  ·simp only[hl,decide_false,aR,Bool.false_and]
 by_cases o11:x.op=11
 ·simp only[o11,aW,Int.reduceEq,decide_true,decide_false,aO,aR,cond_true,cond_false,ci,dC,gA,OG,uc,qb,lβ,sz,ow,q11];match hx:x.kids with
  |[]=>simp[ej,hx,bE,aR]
  |[_]=>simp[ej,hx,bE,aR]
  |[k0,k1]=>
   obtain⟨y0,h0⟩:=hk k0 (by rw[hx];simp);obtain⟨y1,h1⟩:=hk k1 (by rw[hx];simp);have g0:cE ns k0=y0.op:=by unfold cE;rw[h0];rfl
   have g1:cE ns k1=y1.op:=by unfold cE;rw[h1];rfl
   have w:ag .i64 (2 - 1)=1:=by decide
   simp only[List.length_cons,List.length_nil,Nat.zero_add,Nat.reduceAdd,Int.cast_ofNat_Int,decide_true,aO,aE,aM,cM,bf,dI,h0,vZ,uc,ex,ba,aD,aC,w,show jY [k0,k1] 1=some k1 from rfl,h1,ej,hx,dJ,List.headD_cons,List.drop_succ_cons,List.drop_zero,List.all_cons,List.all_nil,g0,g1,EI,aW,show bm 2 2=true from rfl,show bm 2 3=true from rfl,Bool.and_true,Bool.true_and];cases dY y0.op<;>by_cases h18:y1.op=18<;>cases aN x.name []<;>simp[h18,aO,aR]
  |[k0,k1,k2]=>
   obtain⟨y0,h0⟩:=hk k0 (by rw[hx];simp);obtain⟨y1,h1⟩:=hk k1 (by rw[hx];simp);obtain⟨y2,h2'⟩:=hk k2 (by rw[hx];simp);have g0:cE ns k0=y0.op:=by unfold cE;rw[h0];rfl
   have g1:cE ns k1=y1.op:=by unfold cE;rw[h1];rfl
   have g2:cE ns k2=y2.op:=by unfold cE;rw[h2'];rfl
   have w:ag .i64 (3 - 1)=2:=by decide
   simp only[List.length_cons,List.length_nil,Nat.zero_add,Nat.reduceAdd,Int.cast_ofNat_Int,Int.reduceEq,decide_true,decide_false,aO,aR,aE,aM,cM,bf,dI,h0,vZ,uc,ex,ba,aD,aC,w,show jY [k0,k1,k2] 1=some k1 from rfl,show jY [k0,k1,k2] 2=some k2 from rfl,h1,h2',ej,hx,dJ,List.headD_cons,List.drop_succ_cons,List.drop_zero,List.all_cons,List.all_nil,g0,g1,g2,EI,aW,show bm 2 3=true from rfl,show bm 3 3=true from rfl,Bool.and_true,Bool.true_and];cases dY y0.op<;>by_cases h18:y1.op=18<;>by_cases h19:y2.op=18<;>cases aN x.name []<;>simp[h18,h19,aO,aR]
  |a::b::c::d::r=>
   have z2:¬(((a::b::c::d::r).length:Int)=2):=by simp;omega
   have z3:¬(((a::b::c::d::r).length:Int)=3):=by simp;omega
   have z4:bm ((a::b::c::d::r).length:Int) 3=false:=by rw[bE];simp;omega
   simp only[z2,z3,decide_false,aR,ej,hx,z4,Bool.and_false,Bool.false_and]
 by_cases o12:x.op=12
 ·simp only[o12,aW,Int.reduceEq,decide_true,decide_false,aO,aR,cond_true,cond_false,ci,dC,gA,OG,uc,qb,lβ,ow,q11,gH];match hx:x.kids with
  |[]=>simp[hx,aR]
  |[_]=>simp[hx,aR]
  |[k0,k1]=>
   obtain⟨y0,h0⟩:=hk k0 (by rw[hx];simp);obtain⟨y1,h1⟩:=hk k1 (by rw[hx];simp);have g0:cE ns k0=y0.op:=by unfold cE;rw[h0];rfl
   have g1:cE ns k1=y1.op:=by unfold cE;rw[h1];rfl
   simp only[List.length_cons,List.length_nil,Nat.zero_add,Nat.reduceAdd,Int.cast_ofNat_Int,decide_true,aO,aE,aM,cM,bf,dI,h0,vZ,uc,ex,ba,aD,aC,show jY [k0,k1] 1=some k1 from rfl,h1,hx,dJ,List.headD_cons,List.drop_succ_cons,List.drop_zero,List.all_cons,List.all_nil,g0,g1,EI,aW,Bool.and_true,Bool.true_and];cases dY y0.op<;>by_cases h18:y1.op=18<;>cases aN x.name []<;>simp[h18,aO,aR]
  |a::b::c::r=>
   have z2:¬(((a::b::c::r).length:Int)=2):=by simp;omega
   simp only[z2,hx,decide_false,aR,Bool.false_and]
 by_cases o13:x.op=13
 ·simp only[o13,aW,Int.reduceEq,decide_true,decide_false,aO,aR,cond_true,cond_false,ci,dC,gA,gH,Gy,IH,MI,Lm,MJ,MK,qb,lβ,ba,aD,bz,aC,bw,dL,gD,q6,ej,show bm 0 (x.kids.length:Int)=true by rw[bE];simp];cases bm (x.kids.length:Int) 1<;>cases dJ ns x 0 dY<;>cases aN x.name []<;>rfl
 by_cases o15:x.op=15
 ·simp only[o15,aW,Int.reduceEq,decide_true,decide_false,aO,aR,cond_true,cond_false,ci,dC,gA,gH,Gy,IH,MI,Lm,MJ,MK,qb,lβ,ba,aD,bz,aC,bw,dL,gD,q6];cases decide ((x.kids.length:Int)=2)<;>cases dJ ns x 0 dY<;>cases aN x.name []<;>rfl
 by_cases o16:x.op=16
 ·simp only[o16,aW,Int.reduceEq,decide_true,decide_false,aO,aR,cond_true,cond_false,ci,dC,gA,gH,Gy,IH,MI,Lm,MJ,MK,qb,lβ,ba,aD,bz,aC,bw,dL,gD,q6];cases decide ((x.kids.length:Int)=3)<;>cases dJ ns x 0 dY<;>cases aN x.name []<;>rfl
 by_cases o17:x.op=17
 ·simp only[o17,aW,Int.reduceEq,decide_true,decide_false,aO,aR,cond_true,cond_false,ci,dC,gA,gH,Gy,IH,MI,Lm,MJ,MK,qb,lβ,ba,aD,bz,aC,bw,dL,gD,q6];cases decide ((x.kids.length:Int)=1)<;>cases dJ ns x 0 dY<;>cases aN x.name []<;>rfl
 by_cases o18:x.op=18
 ·simp only[o18,aW,Int.reduceEq,decide_true,decide_false,aO,aR,cond_true,cond_false,ci,dC,gA];have g:=fun k0=>IW (m:=n+3) ns x [] [] hk b1 k0 x.kids.length (n+4) 0 true (by omega) (by omega)
  simp only[show((0:Nat):Int)=0 from rfl,List.drop_zero,Bool.true_and]at g;simp only[qb,lβ,g,Gy,IH,MI,Lm,MJ,MK,e2,cY,ba,aD,aC,bw,dL,gD,dJ,List.drop_zero,v0,Bool.and_true]
 ·simp only[aW,o1,o2,o3,o4,o5,o6,o7,o8,o9,o10,o11,o12,o13,o14,o15,o16,o17,o18,decide_false,aR,ci,cond_false,Bool.false_and]
end
end Go.Ab
end
section
namespace Go.Ab
open Go
set_option maxRecDepth 100000
noncomputable section
theorem GA {n:Nat}(xs ys:List Int)(lo len:Nat)(hl:lo+len≤xs.length)(h:ys.length<n)(hb:ys.length<9223372036854775808):evFn lay0.tab (n+1) 50 [.p (.slice 1 (ys.map iE)),.arr 0 lo len 1] [.arr (xs.map iE)]=some (.p (.bool (decide ((xs.drop lo).take len=ys))),[.arr (xs.map iE)]):=by
 apply GQ n (xs.map iE) lo len (ys.map iE);have hzl:((xs.drop lo).take len).length=len:=by simp;omega
 simp only[oU,lβ,aW,co];by_cases he:ys.length=len
 ·rw[if_pos (by omega)];have hl2:ys.length=((xs.drop lo).take len).length:=by omega
  refine(aT (ys.zip ((xs.drop lo).take len)) (fun q i=>io _ n _ _ q (ys.map iE,lo,len,i,xs.map iE)) (fun t=>!av t.1 t.2) (fun i=>some (.p (.bool false),[.arr (xs.map iE)])) (some (.p (.bool true),[.arr (xs.map iE)])) (fun q i hi=>?_) (fun q=>?_) (by simp only[mν];omega)).trans ?_
  ·simp only[mν]at hi;rw[pA];have hg:(xs.map iE)[lo+i]?=some (iE (((xs.drop lo).take len)[i]'(by omega))):=by
    rw[lχ,lγ (by omega)];simp
   simp only[fc,lβ,cG (show((i:Int)<(ys.length:Int)) by omega),cG (show((i:Int)<(len:Int)) by omega),aO,bE,show(0:Int)≤(i:Int) by omega,decide_true,Int.toNat_natCast,hg,aE,aM,aI (show i<ys.length by omega),bf,dI,wBr (show i<9223372036854775807 by omega),List.getElem_zip];exact cU _ _ _
  ·rw[pA];simp only[fc,lβ,mν,←hl2,Nat.min_self,bX,aR]
  ·have key:=qa av hl2 aW;cases hf:(ys.zip ((xs.drop lo).take len)).findIdx? (fun t=>!av t.1 t.2)with
   |none=>simp only[(key.1 hf).symm,decide_true]
   |some j=>
    have:¬(xs.drop lo).take len=ys:=fun e=>by rw[key.2 e.symm]at hf;cases hf
    simp only[this,decide_false]
 ·rw[if_neg (by omega)];have:¬(xs.drop lo).take len=ys:=fun e=>he (by rw[←e];omega)
  simp only[this,decide_false]
theorem Gd {n:Nat}(ns:List No)(hkl:∀x∈ns,x.kids.length<1000000000000)(hl:ns.length<1501)(k0:LD→R)(k1:cP→R)(hk0:∀a,k0 a=some (.p (.bool false),[]))(hk1:∀a b c d,k1 (a,b,c,d)=some (.p (.bool (decide (b=1))),[])):∀(e q i:Nat) (roots:List Int),i+e=ns.length→e<q→roots.length≤i→
  L_r18PostOrder_1 (br lay0.tab (n+1502)) (n+1502) k0 k1 q (ns.map No.e,roots.length,(i:Int),roots.map iE)=some (.p (.bool (ea (ns.drop i) i roots)),[])
 |0,q+1,i,roots,h,_,_=>by
  obtain rfl:i=ns.length:=by omega
  rw[oq];simp only[eg,lβ,bX,aR,List.drop_length,ea,hk1]
 |e+1,q+1,i,roots,h,hq,hr=>by
  have hi:i<ns.length:=by omega
  have hx:ns[i]∈ns:=lι _;have hkx:=hkl _ hx;rw[oq,lξ hi];have hw:ag .i64 ((roots.length:Int) - ((ns[i].kids.map iE).length:Int))=(roots.length:Int) - (ns[i].kids.length:Int):=by
   rw[lβ,ig (by omega) (by omega)]
  simp only[eg,lβ,cG (show((i:Int)<(ns.length:Int)) by omega),aO,aE,aM,aI hi,bf,vZ,qb,ea];rw[lβ]at hw;by_cases hlt:roots.length<ns[i].kids.length
  ·rw[if_pos hlt,cG (by omega),aO,hk0]
  ·rw[if_neg hlt,u0 (by omega),aR];have ht:((roots.length:Int) - (ns[i].kids.length:Int)).toNat=roots.length - ns[i].kids.length:=by omega
   have hm:List.take (roots.length - ns[i].kids.length - 0) (List.drop 0 (roots.map iE))++[Da.int .i64 (i:Int)]=(roots.take (roots.length - ns[i].kids.length)++[(i:Int)]).map iE:=by
    rw[List.map_append,List.map_take];rfl
   have hb0:cR (0+(List.take (roots.length - ns[i].kids.length - 0) (List.drop 0 (roots.map iE))).length) 8=true:=Ad (by simp;omega);have hb:cR ((List.take (roots.length - ns[i].kids.length - 0) (List.drop 0 (roots.map iE))).length+[Da.int .i64 (i:Int)].length) 8=true:=Ad (by simp;omega);have hv:=ab (GA (n:=n+1501) roots ns[i].kids (roots.length - ns[i].kids.length) (roots.length - (roots.length - ns[i].kids.length)) (by omega) (by omega) (by omega));have hz:=ab (qd (n:=n+1501) ns[i].kids [] (by omega) (by omega));have hdr:(roots.drop (roots.length - ns[i].kids.length)).take (roots.length - (roots.length - ns[i].kids.length))=roots.drop (roots.length - ns[i].kids.length):=by
    rw[mθ (by simp)]
   rw[hdr]at hv;simp only[List.map_nil]at hz;have hrec:=Gd (n:=n) ns hkl hl k0 k1 hk0 hk1 e q (i+1) (roots.take (roots.length - ns[i].kids.length)++[(i:Int)]) (by omega) (by omega) (by simp;omega);simp only[ka,j9,qb,lβ,hw,bE,show(0:Int)≤(roots.length:Int) - (ns[i].kids.length:Int) by omega,show(roots.length:Int) - (ns[i].kids.length:Int)≤(roots.length:Int) by omega,decide_true,aO,ht,Nat.zero_add,hv,hz,ba,aD,ec,aC,show ∀(l:LD) (K:LD→R),Ln (Ob.arr l) K=K l from fun _ _=>rfl,hk0,wS (show i<bT by unfold bT;omega),YR,ep];rw[Nat.zero_add]at hb0;simp only[hb0,hb,hm,aO,lβ,hrec];by_cases hd:roots.drop (roots.length - ns[i].kids.length)=ns[i].kids
   ·rw[if_pos hd];by_cases h0:roots.length - ns[i].kids.length=roots.length
    ·have hk:ns[i].kids=([]:List Int):=by rw[←hd,h0,List.drop_length]
     simp only[h0,hd,hk,if_true,decide_true];cases Nat.blt 0 roots.length<;>simp[aO,aR]
    ·simp only[h0,hd,if_false,if_true]
   ·rw[if_neg hd];by_cases h0:roots.length - ns[i].kids.length=roots.length
    ·have hk:¬ns[i].kids=([]:List Int):=fun e=>hd (by rw[e];simp)
     simp only[h0,hd,hk,if_true,if_false];cases Nat.blt 0 roots.length<;>simp[hk,aO,aR]
    ·simp only[h0,hd,if_false]
theorem Dz {n:Nat}(ns:List No)(hkl:∀x∈ns,x.kids.length<1000000000000)(hl:ns.length<1501):evFn lay0.tab (n+1503) 200 [.p (.slice 8 (ns.map No.e))] []=some (.p (.bool (ea ns 0 [])),[]):=by
 apply Eu (n+1502) (ns.map No.e);unfold mF;refine(Gd (n:=n) ns hkl hl _ _ (fun _=>rfl) (fun a b c d=>?_) ns.length (n+1502) 0 [] (by omega) (by omega) (by simp)).trans rfl;show iL (av (b:Int) 1) _ _=_;rw[bw,dL,aW];congr 4;rw[decide_eq_decide];omega
theorem Dn:∀(r:List No) (i:Nat) (roots:List Int),fp i roots→ea r i roots=true→∀(j:Nat) x,r[j]?=some x→fp (i+j) x.kids
 |[],_,_,_,_,j,x,hx=>by simp at hx
 |y::r,i,roots,hr,h,j,x,hx=>by
  simp only[ea]at h;split at h
  ·cases h
  ·split at h
   ·rename_i hlen hdrop;cases j with
    |zero=>
     simp only[List.getElem?_cons_zero,lα]at hx;subst hx;intro k hk;rw[←hdrop]at hk;exact hr k (mξ hk)
    |succ j=>
     rw[List.getElem?_cons_succ]at hx;have:=Dn r (i+1) _ ?_ h j x hx
     ·rw[show i+(j+1)=i+1+j by omega];exact this
     ·intro k hk;rcases mρ.1 hk with hk|hk
      ·obtain⟨g1,g2⟩:=hr k (mσ hk);exact⟨g1,by omega⟩
      ·simp only[List.mem_singleton]at hk;subst hk;omega
   ·cases h
theorem aaq:∀(l:List No) (i:Nat) (hs:List Int) (j:Nat),j<i→(hN l i hs).getD j 0=hs.getD j 0
 |[],_,_,_,_=>rfl
 |x::r,i,hs,j,h=>by
  simp only[hN];rw[aaq r (i+1) _ j (by omega)];simp only[lρ,List.getElem?_set];rw[if_neg (by omega)]
theorem aao (op:Int)(hs hs':List Int):∀(l:List Int) (j:Nat) (m:Int),(∀k∈l,hs.getD k.toNat 0=hs'.getD k.toNat 0)→hK op hs l j m=hK op hs' l j m
 |[],_,_,_=>rfl
 |k::r,j,m,h=>by
  simp only[hK,h k (lυ ..)];exact aao op hs hs' r (j+1) _ fun x hx=>h x (lψ _ hx)
theorem aeS:∀(l:List No) (i:Nat) (hs:List Int) (j:Nat) (x:No),l[j]?=some x→i+l.length≤hs.length→(∀(j:Nat) x,l[j]?=some x→fp (i+j) x.kids)→(hN l i hs).getD (i+j) 0=OE x.op (hK x.op (hN l i hs) x.kids 0 0)
 |[],_,_,j,x,h,_,_=>by simp at h
 |y::r,i,hs,j,x,h,hl,hk=>by
  simp only[List.length_cons]at hl;cases j with
  |zero=>
   simp only[List.getElem?_cons_zero,lα]at h;subst h;have h0:=hk 0 y rfl;simp only[hN];show(hN r (i+1) (hs.set i (OE y.op (hK y.op hs y.kids 0 0)))).getD i 0=_;rw[aaq r (i+1) _ i (by omega),lρ,qγ (by omega),Option.getD_some];congr 1;refine aao _ _ _ _ _ _ fun k hm=>?_
   obtain⟨g1,g2⟩:=h0 k hm;have g2:k<(i:Int):=g2;rw[aaq r (i+1) _ k.toNat (by omega)];simp only[lρ,List.getElem?_set];rw[if_neg (by omega)]
  |succ j=>
   rw[List.getElem?_cons_succ]at h;have:=aeS r (i+1) (hs.set i (OE y.op (hK y.op hs y.kids 0 0))) j x h (by rw[List.length_set];omega) fun j x hx=>by
    have:=hk (j+1) x (by rw[List.getElem?_cons_succ];exact hx);rw[show i+1+j=i+(j+1) by omega];exact this
   rw[show i+(j+1)=i+1+j by omega];exact this
def hgt (ns:List No):List Int:=hN ns 0 (List.replicate ns.length 0)
theorem agv {ns:List No}(hp:ea ns 0 []=true){i:Nat}{x:No}(hx:ns[i]?=some x):(hgt ns).getD i 0=OE x.op (hK x.op (hgt ns) x.kids 0 0):=by
 have:=aeS ns 0 (List.replicate ns.length 0) i x hx (by simp) (Dn ns 0 [] (fun k h=>by cases h) hp);rw[Nat.zero_add]at this;exact this
theorem IY {m:Nat}(ns:List No)(k0:gO→R)(x:No)(hl:x.kids.length<1501)(hr:∀k∈x.kids,∀K:KV,br lay0.tab m 197 [.p (.slice 8 (ns.map No.e)),.p (.int .i64 k)] [] K=K (.p (.int .i64 ((hgt ns).getD k.toNat 0))) []):∀(e q j:Nat) (mx:Int),j+e=x.kids.length→e<q→
  L_r18Height_1 (br lay0.tab m) m k0 q (ns.map No.e,mx,(j:Int),x.r)=k0 (ns.map No.e,hK x.op (hgt ns) (x.kids.drop j) j mx,(x.kids.length:Int),x.r)
 |0,q+1,j,mx,h,_=>by
  obtain rfl:j=x.kids.length:=by omega
  rw[sh];simp only[gX,qb,lβ,bX,aR,List.drop_length,hK]
 |e+1,q+1,j,mx,h,hq=>by
  have hj:j<x.kids.length:=by omega
  rw[sh,lξ hj];simp only[gX,qb,lβ,cG (show((j:Int)<(x.kids.length:Int)) by omega),aO,aE,aM,aI hj,bf,dI,hr _ (lι _),ba,bz,aC,uc,wS (show j<bT by unfold bT;omega),hK];cases av (j:Int) 0<;>cases av x.op 11<;>cases av x.op 12<;>exact IY ns k0 x hl hr e q (j+1) _ (by omega) (by omega)
theorem A9 {n:Nat}(ns:List No)(hp:ea ns 0 []=true)(hkl:∀x∈ns,x.kids.length<1501):∀(f i:Nat),i<f→i<ns.length→evFn lay0.tab (n+1502+f) 197 [.p (.slice 8 (ns.map No.e)),.p (.int .i64 i)] []=some (.p (.int .i64 ((hgt ns).getD i 0)),[])
 |0,i,h,_=>by omega
 |f+1,i,h,hi=>by
  have hx:ns[i]?=some ns[i]:=lγ hi;have hk:=Dn ns 0 [] (fun k h=>by cases h) hp i ns[i] hx;rw[Nat.zero_add]at hk;have hkx:=hkl ns[i] (lι _);rw[agv hp hx];show evFn lay0.tab (n+1502+f+1) _ _ _=_;apply Nv (n+1502+f) (ns.map No.e) i;unfold rN;have g:=fun k0=>IY (m:=n+1502+f) ns k0 ns[i] hkx (fun k hm K=>by
   obtain⟨g1,g2⟩:=hk k hm;obtain⟨j,rfl⟩:∃j:Nat,k=(j:Int):=⟨k.toNat,by omega⟩
   have:=A9 (n:=n) ns hp hkl f j (by omega) (by omega);rw[Int.toNat_natCast];exact ab this K) ns[i].kids.length (n+1502+f) 0 0 (by omega) (by omega)
  simp only[show((0:Nat):Int)=0 from rfl,List.drop_zero]at g;simp only[aE,aM,aI hi,bf,vZ,g,uc];unfold OE;cases av ns[i].op 4<;>cases av ns[i].op 5<;>cases av ns[i].op 6<;>cases av ns[i].op 7<;>cases av ns[i].op 15<;>cases av ns[i].op 16<;>cases av ns[i].op 17<;>cases av ns[i].op 18<;>rfl
structure SzS (n:Nat)(x:No):Prop where
 nm:x.name.length<n∧x.name.length<9223372036854775808
 vs:x.v.s.length<n∧x.v.s.length<9223372036854775808
theorem UZ {n b:Nat}(ns:List No)(hs:∀x∈ns,x.kids.length<b∧x.v.I.length<b∧x.v.L.length<b)(hbb:b≤1000000000000)(hbn:b≤n+4497)(hl:ns.length<1501)(hn:∀x∈ns,SzS n x)(hb:n≤400000000000000000000):evFn lay0.tab (n+4503) 158 [.p (.slice 8 (ns.map No.e))] []=some (.p (.bool (fY ns)),[]):=by
 apply Vn (n+4502) (ns.map No.e);unfold zE fY;simp only[ab (Dz (n:=n+2999) ns (fun x hx=>by have:=(hs x hx).1;omega) hl),ba,aD,aC];cases hp:ea ns 0 []with
 |false=>rfl
 |true=>
  obtain⟨k,hsub,hk1⟩:=uh ns 0 [] rfl (Nat.zero_le _) .nil hp;have hks:∀x∈ns,x.kids.length<1501:=fun x hx=>by have:=yC ns 0 [] (by simp) hp x hx;omega
  have hkk:=ug (b:=ns.length) ns 0 [] (by omega) (fun k hk=>by cases hk) hp;have hw:ag .i64 (((ns.map No.e).length:Int) - 1)=((ns.length - 1:Nat):Int):=by rw[lβ,ig (by omega) (by omega)];omega
  have hlt:ns.length - 1<ns.length:=by omega
  simp only[hw,aO,aE,aM,aI hlt,bf,vZ,uc,cE,Option.map_some,Option.getD_some,Bool.true_and];cases av ns[ns.length - 1].op 18 with
  |false=>rfl
  |true=>
   simp only[Bool.not_true,aR,Bool.true_and];have hh:=ab (A9 (n:=n+1499) ns hp hks 1501 (ns.length - 1) (by omega) (by omega));refine(aT ns (fun q i=>nZ _ (n+4502) _ _ q (ns.map No.e,i)) (fun x=>!(ci ns x&&dC x)) (fun i=>some (.p (.bool false),[])) (some (.p (.bool (bm (xW ns) 24)),[])) (fun q i hi=>?_) (fun q=>?_) (by omega)).trans ?_
   ·rw[wW];have hx:ns[i]∈ns:=lι _;have sx:=hs _ hx;have tx:=hn _ hx;have e1:=ab (U0 (n:=n+4497) ns ns[i] (T0 (hkk _ hx)) (by omega) (by have:=tx.nm;omega) (by have:=tx.vs;omega) (by omega) (by omega) (by omega) (by have:=tx.nm;omega) (by have:=tx.vs;omega) (by omega) (by omega));simp only[No.e]at e1;simp only[k7,lβ,cG (show((i:Int)<(ns.length:Int)) by omega),aO,aE,aM,aI hi,bf,vZ,wS (show i<bT by unfold bT;omega),e1,ba,aD,aC];cases ci ns ns[i]<;>cases dC ns[i]<;>rfl
   ·rw[wW];simp only[k7,lβ,bX,aR];rw[lβ]at hw;simp only[hw,hh,ba,bz,aC,bw,dL];rfl
   ·rw[dQ];cases ns.findIdx? fun x=>!(ci ns x&&dC x)<;>rfl
structure Ns (n:Nat)(a:Ac):Prop where
 nm:a.name.length<n∧a.name.length<9223372036854775808
 ff:∀f∈a.fields,f.name.length<n∧f.name.length<9223372036854775808
 mm:∀m∈a.methods,(m.name.length<n∧m.name.length<9223372036854775808)∧(∀p∈m.params,p.name.length<n∧p.name.length<9223372036854775808)∧∀x∈m.nodes,SzS n x
theorem adL {k:Nat}(h:k<1501):(bif aX 1501 (k:Int)then(1501:Int)else(k:Int))=(k:Int):=by
 rw[u0 (by omega)];rfl
theorem ail (k:Int):(!aX k 0&&!aX 5 k)=(!(!av k 0)||gB k):=by
 unfold gB;rw[mδ];simp only[lQ,aW,bE,lδ,mψ,Bool.not_eq_true',Bool.not_not,lη,mα];omega
theorem W0 {m:Nat}(ps:List Pa)(hs:∀p∈ps,p.name.length<m∧p.name.length<9223372036854775808)(hl:ps.length<1501)(hb:m≤400000000000000000000)(a b c:Int)(P:aa)(A:ae)(M:ah)(hM:M.Params=ps.map Pa.e)(k0:aa×ae×ah→R)(k1:jb→R){q:Nat}(hq:ps.length<q):
  L_r18Valid_4 (br lay0.tab (m+3)) (m+3) k0 k1 q (a,b,c,0,P,A,M)=bif ps.all (fun p=>cK p.name&&gB p.kind)then k1 (a,b,c,(ps.length:Int),P,A,M)else k0 (P,A,M):=by
 refine(aT ps (fun q i=>L_r18Valid_4 _ (m+3) _ _ q (a,b,c,i,P,A,M)) (fun p=>!(cK p.name&&gB p.kind)) (fun i=>k0 (P,A,M)) (k1 (a,b,c,(ps.length:Int),P,A,M)) (fun q i hi=>?_) (fun q=>?_) hq).trans ?_
 ·rw[uF];have hx:=hs ps[i] (lι _);have e1:=ab (iJ (n:=m) ps[i].name hx.1 hx.2);have hk:gB ps[i].kind=(!aX ps[i].kind 1&&!aX 5 ps[i].kind):=rfl;simp only[jx,hM,lβ,cG (show((i:Int)<(ps.length:Int)) by omega),aO,aE,aM,aI hi,bf,dPa,show ∀p:Pa,p.r.Name=p.name from fun _=>rfl,show ∀p:Pa,p.r.Kind=p.kind from fun _=>rfl,wS (show i<bT by unfold bT;omega),hk,e1,ba,aD,aC];cases cK ps[i].name<;>cases aX ps[i].kind 1<;>cases aX 5 ps[i].kind<;>rfl
 ·rw[uF];simp only[jx,hM,lβ,bX,aR]
 ·rw[dQ];cases ps.findIdx? fun p=>!(cK p.name&&gB p.kind)<;>rfl
theorem agT {k:Nat}{t:Int}(h0:0≤t)(h1:t≤1500)(h:1500<k):aX 1500 (ag .i64 (t+(bif aX 1501 (k:Int)then(1501:Int)else(k:Int))))=true:=by
 by_cases hk:1501<(k:Int)
 ·rw[cG hk,cond_true,ig (by omega) (by omega),cG (by omega)]
 ·rw[u0 hk,cond_false,ig (by omega) (by omega),cG (by omega)]
theorem IZ {m b:Nat}(a:Ac)(hz:GM b a)(hbb:b≤1000000000000)(hbm:b≤m+4497)(hml:a.methods.length<1501)(hs:Ns m a)(hb:m≤300000000000000000000)(i:Int)(P:aa)(k0:aa×ae×ah→R)(k1:ja→R)(Z:R)(hk0:∀x,k0 x=Z):∀(e q j:Nat) (t:Int),j+e=a.methods.length→e<q→0≤t→t≤1500→
  L_r18Valid_3 (br lay0.tab (m+4506)) (m+4506) k0 k1 q (t,i,(j:Int),P,a.r)=match th (a.methods.drop j) t with|none=>Z|some t=>k1 (t,i,(a.methods.length:Int),P,a.r)
 |0,q+1,j,t,h,_,_,_=>by
  obtain rfl:j=a.methods.length:=by omega
  rw[uE];simp only[jw,show a.r.Methods=a.methods.map Me.e from rfl,lβ,bX,aR,List.drop_length,th]
 |e+1,q+1,j,t,h,hq,h0,h1=>by
  have hj:j<a.methods.length:=by omega
  obtain⟨hx1,hx2,hx3⟩:=hz.mp a.methods[j] (lι _);obtain⟨s1,s2,s3⟩:=hs.mm a.methods[j] (lι _);have e1:=ab (iJ (n:=m+4503) a.methods[j].name (by omega) (by omega));have hw:ag .i64 (t+(a.methods[j].nodes.length:Int))=t+(a.methods[j].nodes.length:Int):=ig (by omega) (by omega);rw[uE,lξ hj];simp only[jw,show a.r.Methods=a.methods.map Me.e from rfl,lβ,cG (show((j:Int)<(a.methods.length:Int)) by omega),aO,aE,aM,aI hj,bf,QB,wS (show j<bT by unfold bT;omega),show a.methods[j].r.Nodes=a.methods[j].nodes.map No.e from rfl,show a.methods[j].r.Name=a.methods[j].name from rfl,show a.methods[j].r.Result=a.methods[j].result from rfl,show a.methods[j].r.Params=a.methods[j].params.map Pa.e from rfl,lβ,e1,ba,aD,aC,hk0,th,pM,←ail];by_cases hbig:1500<a.methods[j].nodes.length
  ·rw[agT h0 h1 hbig,hw,cG (show(1500:Int)<t+(a.methods[j].nodes.length:Int) by omega)];rfl
  have e2:=ab (UZ (n:=m+3) a.methods[j].nodes hx3 hbb (by omega) (by omega) (fun x hx=>⟨by have:=(s3 x hx).nm;omega,by have:=(s3 x hx).vs;omega⟩) (by omega));simp only[adL (show a.methods[j].nodes.length<1501 by omega),e2,ba,aD,aC];by_cases hg:1500<t+(a.methods[j].nodes.length:Int)
  ·rw[hw,cG hg];rfl
  have ih:=IZ (m:=m) a hz hbb hbm hml hs hb i P k0 k1 Z hk0 e q (j+1) (t+(a.methods[j].nodes.length:Int)) (by omega) (by omega) (by omega) (by omega);rw[hw,u0 hg];cases cK a.methods[j].name
  ·rfl
  cases aX a.methods[j].result 0
  ·cases aX 5 a.methods[j].result
   ·by_cases hp4:4<(a.methods[j].params.length:Int)
    ·rw[cG hp4];rfl
    ·have e3:=fun t i2 k1' k0'=>W0 (m:=m+4503) a.methods[j].params (fun p hp=>by have:=s2 p hp;omega) (by omega) (by omega) t i2 (j:Int) P a.r a.methods[j].r rfl k0' k1' (q:=m+4506) (by omega)
     rw[u0 hp4];simp only[e3,hk0,aR,Bool.not_false,Bool.true_and];cases fY a.methods[j].nodes
     ·cases(a.methods[j].params.all fun p=>cK p.name&&gB p.kind)<;>rfl
     ·cases(a.methods[j].params.all fun p=>cK p.name&&gB p.kind)
      ·rfl
      ·simp only[aO,aR,cond_true,cond_false,Bool.and_self,wS (show j<bT by unfold bT;omega)];exact ih
   ·cases aX 4 (a.methods[j].params.length:Int)<;>rfl
  ·cases aX 4 (a.methods[j].params.length:Int)<;>rfl
theorem WY {m b:Nat}(a:Ac)(hz:GM b a)(hbb:b≤1000000000000)(hbm:b≤m+4497)(hfl:a.fields.length<1501)(hs:Ns m a)(hb:m≤300000000000000000000)(t i:Int)(P:aa)(k0:aa×ae→R)(k1:iZ→R){q:Nat}(hq:a.fields.length<q):
  L_r18Valid_2 (br lay0.tab (m+4506)) (m+4506) k0 k1 q (t,i,0,P,a.r)=bif !a.fields.any (fun f=>!em f)then k1 (t,i,(a.fields.length:Int),P,a.r)else k0 (P,a.r):=by
 refine(aT a.fields (fun q j=>L_r18Valid_2 _ (m+4506) _ _ q (t,i,j,P,a.r)) (fun f=>!em f) (fun j=>k0 (P,a.r)) (k1 (t,i,(a.fields.length:Int),P,a.r)) (fun q j hj=>?_) (fun q=>?_) hq).trans ?_
 ·rw[uD];have hf:=hz.fv a.fields[j] (lι _);have e1:=ab (Jc (n:=m+4502) a.fields[j] (by have:=hs.ff a.fields[j] (lι _);omega) (by omega) (by omega) (by have:=hs.ff a.fields[j] (lι _);omega) (by omega) (by omega));simp only[Fe.e]at e1;simp only[jv,show a.r.Fields=a.fields.map Fe.e from rfl,lβ,cG (show((j:Int)<(a.fields.length:Int)) by omega),aO,aE,aM,aI hj,bf,dFe,wS (show j<bT by unfold bT;omega),e1,ba,aD,aC];cases em a.fields[j]<;>rfl
 ·rw[uD];simp only[jv,show a.r.Fields=a.fields.map Fe.e from rfl,lβ,bX,aR]
 ·rw[←List.findIdx?_isSome];cases a.fields.findIdx? fun f=>!em f<;>rfl
theorem I1 {m b:Nat}(p:List Ac)(hz:∀a∈p,GM b a)(hbb:b≤1000000000000)(hbm:b≤m+4497)(hl:p.length<1501)(hs:∀a∈p,Ns m a)(hb:m≤300000000000000000000)(k0:aa×ae→R)(k1:aa×ae×ah→R)(k2:iY→R)(Z W:R)(hk0:∀x,k0 x=Z)(hk1:∀x,k1 x=Z)(hk2:∀x,k2 x=W):∀(e q j:Nat) (t:Int),j+e=p.length→e<q→0≤t→t≤1500→
  L_r18Valid_1 (br lay0.tab (m+4506)) (m+4506) k0 k1 k2 q (t,(j:Int),⟨p.map Ac.e⟩)=match zp (p.drop j) t with|none=>Z|some _=>W
 |0,q+1,j,t,h,_,_,_=>by
  obtain rfl:j=p.length:=by omega
  rw[uC];simp only[ju,lβ,bX,aR,List.drop_length,zp,hk2]
 |e+1,q+1,j,t,h,hq,h0,h1=>by
  have hj:j<p.length:=by omega
  have hx:=hz p[j] (lι _);have sx:=hs p[j] (lι _);have e1:=ab (iJ (n:=m+4503) p[j].name (by have:=sx.nm;omega) (by have:=sx.nm;omega));rw[uC,lξ hj];simp only[ju,lβ,cG (show((j:Int)<(p.length:Int)) by omega),aO,aE,aM,aI hj,bf,GZ,show p[j].r.Name=p[j].name from rfl,show p[j].r.Fields=p[j].fields.map Fe.e from rfl,show p[j].r.Methods=p[j].methods.map Me.e from rfl,lβ,wS (show j<bT by unfold bT;omega),e1,ba,aD,aC,hk0,hk1,zp,RA];cases cK p[j].name
  ·rfl
  by_cases hf:8<(p[j].fields.length:Int)
  ·rw[cG hf];rfl
  by_cases hm:16<(p[j].methods.length:Int)
  ·rw[u0 hf,cG hm];rfl
  rw[u0 hf,u0 hm];have e2:=fun k0' k1'=>WY (m:=m) p[j] hx hbb hbm (by omega) sx hb t (j:Int) ⟨p.map Ac.e⟩ k0' k1' (q:=m+4506) (by omega)
  have e3:=fun k0' k1' hk=>IZ (m:=m) p[j] hx hbb hbm (by omega) sx hb (j:Int) ⟨p.map Ac.e⟩ k0' k1' Z hk p[j].methods.length (m+4506) 0 t (by omega) (by omega) h0 h1
  simp only[show((0:Nat):Int)=0 from rfl,List.drop_zero]at e3;have e3':=fun k1'=>e3 (fun(u70,u71,u72)=>Z) k1' (fun _=>rfl)
  simp only[e2,e3',hk0,hk1,aO,aR,Bool.not_false,Bool.true_and,wS (show j<bT by unfold bT;omega)];cases p[j].fields.any fun f=>!em f
  ·simp only[aO,aR,Bool.not_false,Bool.true_and,cond_true];cases hss:th p[j].methods t with
   |none=>rfl
   |some t'=>
    obtain⟨g1,g2,_⟩:=qT _ _ _ hss (fun m hm=>by have:=(hx.mp m hm).2.1;omega) h0 h1;exact I1 p hz hbb hbm hl hs hb k0 k1 k2 Z W hk0 hk1 hk2 e q (j+1) _ (by omega) (by omega) g1 g2
  ·rfl
theorem DA {n b:Nat}(p:List Ac)(hz:∀a∈p,GM b a)(hbb:b≤1000000000000)(hbm:b≤n+4497)(hs:∀a∈p,Ns n a)(hb:n≤300000000000000000000):evFn lay0.tab (n+4507) 114 [.p (.agg [.slice 3 (p.map Ac.e)])] []=some (.p (.bool (cB p)),[]):=by
 apply Rk (n+4506) ⟨p.map Ac.e⟩;unfold vE cB;simp only[lβ];by_cases hl:8<(p.length:Int)
 ·rw[cG hl];rfl
 ·rw[u0 hl];refine(I1 (m:=n) p hz hbb hbm (by omega) hs hb _ _ _ (some (.p (.bool false),[])) (some (.p (.bool true),[])) (fun _=>rfl) (fun _=>rfl) (fun _=>rfl) p.length (n+4506) 0 0 (by omega) (by omega) (by omega) (by omega)).trans ?_;rw[List.drop_zero];cases zp p 0<;>rfl
end
end Go.Ab
end
section
namespace Go.Ab
open Go
set_option maxRecDepth 100000
noncomputable section
theorem rJ {n:Nat}(ts:List Ac)(s:List Nat)(h:ts.length<1501):evFn lay0.tab (n+1502) 58 [.p (.agg [.slice 3 (ts.map Ac.e)]),.p (.str s)] []=some (.p (.int .i64 (jR (ts.findIdx? fun t=>aN t.name s))),[]):=by
 apply Nz (n+1501) ⟨ts.map Ac.e⟩ s;refine(aT ts (fun q i=>kG _ (n+1501) _ _ q (s,i,⟨ts.map Ac.e⟩)) (fun t=>aN t.name s) (fun i=>some (.p (.int .i64 i),[])) (some (.p (.int .i64 (-1)),[])) (fun q i hi=>?_) (fun q=>?_) (by omega)).trans ?_
 ·rw[su];simp only[hO,lβ,cG (show((i:Int)<(ts.length:Int)) by omega),aO,aE,aM,aI hi,bf,GZ,wS (show i<bT by unfold bT;omega),show ∀a:Ac,a.r.Name=a.name from fun _=>rfl];exact cU _ _ _
 ·rw[su];simp only[hO,lβ,bX,aR]
 ·cases ts.findIdx? fun t=>aN t.name s<;>rfl
theorem uz {n:Nat}(a:Ac)(s:List Nat)(h:a.methods.length<1501):evFn lay0.tab (n+1502) 59 [.p a.e,.p (.str s)] []=some (.p (.int .i64 (jR (a.methods.findIdx? fun t=>aN t.name s))),[]):=by
 apply GO (n+1501) a.r s;refine(aT a.methods (fun q i=>ik _ (n+1501) _ _ q (s,i,a.r)) (fun t=>aN t.name s) (fun i=>some (.p (.int .i64 i),[])) (some (.p (.int .i64 (-1)),[])) (fun q i hi=>?_) (fun q=>?_) (by omega)).trans ?_
 ·rw[pp];simp only[eX,show a.r.Methods=a.methods.map Me.e from rfl,lβ,cG (show((i:Int)<(a.methods.length:Int)) by omega),aO,aE,aM,aI hi,bf,QB,wS (show i<bT by unfold bT;omega),show ∀m:Me,m.r.Name=m.name from fun _=>rfl];exact cU _ _ _
 ·rw[pp];simp only[eX,show a.r.Methods=a.methods.map Me.e from rfl,lβ,bX,aR]
 ·cases a.methods.findIdx? fun t=>aN t.name s<;>rfl
theorem DD {n:Nat}(a:Ac)(s:List Nat)(h:a.fields.length<1501):evFn lay0.tab (n+1502) 93 [.p a.e,.p (.str s)] []=some (.p (.bool (a.fields.any fun t=>aN t.name s)),[]):=by
 apply Ro (n+1501) a.r s;refine(aT a.fields (fun q i=>lV _ (n+1501) _ _ q (s,i,a.r)) (fun t=>aN t.name s) (fun i=>some (.p (.bool true),[])) (some (.p (.bool false),[])) (fun q i hi=>?_) (fun q=>?_) (by omega)).trans ?_
 ·rw[uK];simp only[jC,show a.r.Fields=a.fields.map Fe.e from rfl,lβ,cG (show((i:Int)<(a.fields.length:Int)) by omega),aO,aE,aM,aI hi,bf,dFe,wS (show i<bT by unfold bT;omega),show ∀m:Fe,m.r.Name=m.name from fun _=>rfl];exact cU _ _ _
 ·rw[uK];simp only[jC,show a.r.Fields=a.fields.map Fe.e from rfl,lβ,bX,aR]
 ·rw[←List.findIdx?_isSome];cases a.fields.findIdx? fun t=>aN t.name s<;>rfl
theorem DE {n:Nat}(m:Me)(k:Nat)(s:List Nat)(hk:k≤m.params.length)(h:m.params.length<1501):evFn lay0.tab (n+1502) 94 [.p m.e,.p (.int .i64 k),.p (.str s)] []=some (.p (.bool ((m.params.take k).any fun t=>aN t.name s)),[]):=by
 apply Rq (n+1501) m.r k s;have hl:(m.params.take k).length=k:=by simp;omega
 refine(aT (m.params.take k) (fun q i=>lW _ (n+1501) _ _ q (k,s,i,m.r)) (fun t=>aN t.name s) (fun i=>some (.p (.bool true),[])) (some (.p (.bool false),[])) (fun q i hi=>?_) (fun q=>?_) (by omega)).trans ?_
 ·rw[uM];simp only[jE,show m.r.Params=m.params.map Pa.e from rfl,lβ,cG (show((i:Int)<(k:Int)) by omega),aO,aE,aM,aI (show i<m.params.length by omega),bf,dPa,wS (show i<bT by unfold bT;omega),show ∀m:Pa,m.r.Name=m.name from fun _=>rfl,qι];exact cU _ _ _
 ·rw[uM];simp only[jE,hl,bX,aR]
 ·rw[←List.findIdx?_isSome];cases(m.params.take k).findIdx? fun t=>aN t.name s<;>rfl
def nJ (l:List No):Nat:=(l.filter fun x=>decide (x.op=8)).length
def nI (l:List No)(s:List Nat):Bool:=l.any fun x=>decide (x.op=8)&&aN x.name s
theorem O6 {m:Nat}(ns:List No)(s:List Nat)(b:Nat)(hb:b≤ns.length)(hl:ns.length<1501)(k0:nP→R):∀(e q j:Nat) (c:Nat) (h:Bool),j+e=b→e<q→c≤j→
  L_r19lets_1 (br lay0.tab m) m k0 q (ns.map No.e,(b:Int),s,(c:Int),h,(j:Int))=k0 (ns.map No.e,(b:Int),s,((c+nJ ((ns.take b).drop j):Nat):Int),h||nI ((ns.take b).drop j) s,(b:Int))
 |0,q+1,j,c,h,hj,_,_=>by
  obtain rfl:j=b:=by omega
  rw[wY];have:(ns.take j).drop j=[]:=qβ (by simp;omega);simp only[k9,bX,aR,this,nJ,nI,List.filter_nil,List.length_nil,List.any_nil,Bool.or_false,Nat.add_zero]
 |e+1,q+1,j,c,h,hj,hq,hc=>by
  have hjl:j<ns.length:=by omega
  have hd:(ns.take b).drop j=ns[j]::(ns.take b).drop (j+1):=by
   rw[lξ (by simp;omega),qι]
  rw[wY,hd];have ih:=fun c h hc=>O6 (m:=m) ns s b hb hl k0 e q (j+1) c h (by omega) (by omega) hc
  simp only[k9,cG (show((j:Int)<(b:Int)) by omega),aO,aE,aM,aI hjl,bf,vZ,uc,Gy,wS (show j<bT by unfold bT;omega),wS (show c<bT by unfold bT;omega),aW,ih (c+1) true (by omega),ih (c+1) false (by omega),ih c h (by omega)];by_cases h8:ns[j].op=8
  ·simp only[h8,decide_true,aO,nJ,nI,List.filter_cons,if_true,List.length_cons,List.any_cons,Bool.true_and];rw[show c+1+((ns.take b).drop (j+1) |>.filter fun x=>decide (x.op=8)).length=c+(((ns.take b).drop (j+1) |>.filter fun x=>decide (x.op=8)).length+1) by omega];cases h<;>cases aN ns[j].name s<;>rfl
  ·simp only[h8,decide_false,aR,nJ,nI,List.filter_cons,Bool.false_eq_true,if_false,List.any_cons,Bool.false_and,Bool.false_or]
theorem U1 {n:Nat}(ns:List No)(b:Nat)(s:List Nat)(hb:b≤ns.length)(hl:ns.length<1501):evFn lay0.tab (n+1502) 132 [.p (.slice 8 (ns.map No.e)),.p (.int .i64 b),.p (.str s)] []=some (.tup [.p (.int .i64 (nJ (ns.take b))),.p (.bool (nI (ns.take b) s))],[]):=by
 apply Vq (n+1501) (ns.map No.e) b s;refine(O6 (m:=n+1501) ns s b hb hl _ b (n+1501) 0 0 false (by omega) (by omega) (by omega)).trans ?_;rw[List.drop_zero,Nat.zero_add,Bool.false_or];cases nI (ns.take b) s<;>rfl
def kE (f:Nat)(ns:List No)(i:Int)(o:Option Int):Bool:=match o with|some k=>decide (k<i)&&jL f ns k|none=>false
def ah3 (f:Nat)(ns:List No)(i:Int)(x:No):Bool:=if x.op=13 then true else if x.op=14 then true else if x.op=11 then(decide (x.kids.length=3)&&(kE f ns i x.kids[1]?&&kE f ns i x.kids[2]?))else if x.op=18 then kE f ns i x.kids.getLast? else false
theorem ac3 {f:Nat}{ns:List No}{i:Int}{x:No}(h:jY ns i=some x):jL (f+1) ns i=ah3 f ns i x:=by
 simp only[jL,h];rfl
theorem HS {n:Nat}(ns:List No)(hk:∀(i:Nat) x,ns[i]?=some x→fp i x.kids)(hkl:∀x∈ns,x.kids.length<1501):∀(f i:Nat),i<f→i<ns.length→evFn lay0.tab (n+f) 133 [.p (.slice 8 (ns.map No.e)),.p (.int .i64 i)] []=some (.p (.bool (jL f ns i)),[])
 |0,i,h,_=>by omega
 |f+1,i,h,hi=>by
  have hx:ns[i]?=some ns[i]:=lγ hi;have hki:=hk i _ hx;have hkx:=hkl ns[i] (lι _);show evFn lay0.tab (n+f+1) _ _ _=_;apply Vp (n+f) (ns.map No.e) i;have rec_:∀k∈ns[i].kids,(∀K:KV,br lay0.tab (n+f) 133 [.p (.slice 8 (ns.map No.e)),.p (.int .i64 k)] [] K=K (.p (.bool (jL f ns k))) [])∧decide (k<(i:Int))=true:=fun k hm=>by
   obtain⟨g1,g2⟩:=hki k hm;obtain⟨j,rfl⟩:∃j:Nat,k=(j:Int):=⟨k.toNat,by omega⟩
   exact⟨ab (HS (n:=n) ns hk hkl f j (by omega) (by omega)),by simpa using g2⟩
  unfold zG;rw[ac3 (aI hi)];unfold ah3;simp only[aE,aM,aI hi,bf,vZ,uc,qb,lβ,aW];by_cases o13:ns[i].op=13
  ·simp only[o13,decide_true,aO,if_true]
  by_cases o14:ns[i].op=14
  ·simp only[o14,decide_true,decide_false,aO,aR,if_true,if_false,Int.reduceEq]
  by_cases o11:ns[i].op=11
  ·simp only[o11,decide_true,decide_false,aO,aR,if_true,if_false,Int.reduceEq];match hks:ns[i].kids with
   |[a,b,c]=>
    obtain⟨r1,d1⟩:=rec_ b (by rw[hks];simp);obtain⟨r2,d2⟩:=rec_ c (by rw[hks];simp);simp only[ox,show jY [a,b,c] 1=some b from rfl,show jY [a,b,c] 2=some c from rfl,bf,dI,r1,r2,d1,d2,ba,aD,aC,List.length_cons,List.length_nil,Nat.zero_add,Nat.reduceAdd,Int.cast_ofNat_Int,decide_true,aO,bw,dL,gD,Bool.true_and,Bool.and_true,List.getElem?_cons_succ,List.getElem?_cons_zero,kE]
   |[]=>rfl
   |[_]=>rfl
   |[_,_]=>rfl
   |a::b::c::d::r=>
    have z:¬(((a::b::c::d::r).length:Int)=3):=by simp;omega
    have z':¬((a::b::c::d::r).length=3):=by simp
    simp only[z,z',decide_false,aR,Bool.false_and]
  by_cases o18:ns[i].op=18
  ·simp only[o18,decide_true,decide_false,aO,aR,if_true,if_false,Int.reduceEq];cases hks:ns[i].kids with
   |nil=>rfl
   |cons a r=>
    have hw:ag .i64 (((a::r).length:Int) - 1)=((r.length:Nat):Int):=by
     have:(a::r).length<1501:=by rw[←hks];exact hkx
     simp at this ⊢
     rw[ig (by omega) (by omega)]
    have hlast:(a::r).getLast?=some ((a::r)[r.length]'(by simp)):=by
     rw[List.getLast?_eq_getElem?];simp
    obtain⟨r1,d1⟩:=rec_ ((a::r)[r.length]'(by simp)) (by rw[hks];exact lι _);rw[hlast];simp only[cG (show(0:Int)<((a::r).length:Int) by simp),aO,hw,aE,aM,aI (show r.length<(a::r).length by simp),bf,ox,dI,r1,d1,ba,aD,aC,bw,dL,Bool.true_and,cond_true,kE]
  simp only[o13,o14,o11,o18,decide_false,aR,if_false]
def ag9 (s:List Nat)(x y:Int):Int:=bif(EH s x y).2 then(EH s x y).1 else -2
end
end Go.Ab
end
section
namespace Go.Ab
open Go
set_option maxRecDepth 100000
noncomputable section
def rB1 (x:Int):Int:=bif av x 1 then 2 else bif av x 3 then 2 else -2
def rB2 (x:Int):Int:=bif av x 1 then 1 else -2
def rB3 (x:Int):Int:=bif av x 2 then 2 else -2
def rBi (s:List Nat)(x y:Int):Int:=bif !av x y then -2 else bif aN s [43]then(bif av x 1 then x else bif av x 3 then x else -2)else bif aN s [45]then rB2 x else bif aN s [42]then rB2 x else bif aN s [47]then rB2 x else bif aN s [37]then rB2 x else bif aN s [61,61]then 2 else bif aN s [33,61]then 2 else bif aN s [60]then rB1 x else bif aN s [60,61]then rB1 x else bif aN s [62]then rB1 x else bif aN s [62,61]then rB1 x else bif aN s [38,38]then rB3 x else bif aN s [124,124]then rB3 x else -2
theorem MP {n:Nat}(s:List Nat)(x y:Int):evFn lay0.tab (n+1) 130 [.p (.str s),.p (.int .i64 x),.p (.int .i64 y)] []=some (.p (.int .i64 (rBi s x y)),[]):=by
 apply Nx n s x y;simp only[rP,gU,gV,KG,rBi,rB1,rB2,rB3]
theorem ag8 {s:List Nat}(h:binO.any (fun t=>aN s t)=true)(x y:Int):rBi s x y=ag9 s x y:=by
 unfold ag9;have e:av x y=true→x=y:=by rw[aW];exact of_decide_eq_true
 simp only[binO,List.any_cons,List.any_nil,Bool.or_false,mψ]at h;rcases h with h|h|h|h|h|h|h|h|h|h|h|h|h<;>(rw[de]at h;have:=of_decide_eq_true h;subst this;cases hxy:av x y<;>simp[rBi,EH,rB1,rB2,rB3,hxy,aN]<;>(try (cases av x 1<;>cases av x 2<;>cases av x 3<;>rfl)))
def lc (k:Int):Nat:=bif av k 1 then 105 else bif av k 2 then 98 else bif av k 3 then 115 else bif av k 4 then 73 else bif av k 5 then 83 else 117
def kL (k:Int):Int:=bif av k 1 then 2 else bif av k 2 then 1 else bif av k 3 then 3 else bif av k 4 then 4 else bif av k 5 then 5 else 0
theorem B6 {n:Nat}(k:Int):evFn lay0.tab (n+1) 237 [.p (.int .i64 k)] []=some (.p (.int .i64 (kL k)),[]):=by
 apply Ce n k;simp only[lD,KG,kL]
def AM:List Int→Nat→List Nat→List Nat
 |[],_,acc=>acc
 |k::r,j,acc=>bif aX (j:Int) 4 then(bif aX k 0 then[63]else bif aX 5 k then[63]else AM r (j+1) (acc++[lc k]))else acc
theorem aih (k:Int):∃j:Nat,kL k=(j:Int)∧j≤5∧List.take ((j+1) - j) (List.drop j [117,98,105,115,73,83])=[lc k]:=by
 unfold kL lc;cases av k 1<;>cases av k 2<;>cases av k 3<;>cases av k 4<;>cases av k 5<;>first|exact⟨0,rfl,by decide,rfl⟩|exact⟨1,rfl,by decide,rfl⟩|exact⟨2,rfl,by decide,rfl⟩|exact⟨3,rfl,by decide,rfl⟩|exact⟨4,rfl,by decide,rfl⟩|exact⟨5,rfl,by decide,rfl⟩
theorem O9 {m:Nat}(ks:List Int)(hl:ks.length<1501)(k0:LN→R)(k1:LD×LN×Int→R)(W:LN→R)(hk0:∀s,k0 s=W s)(hk1:∀a s b,k1 (a,s,b)=W s):∀(e q j:Nat) (acc:List Nat),j+e=ks.length→e<q→acc.length≤j→
  L_r19letters_1 (br lay0.tab (m+1)) (m+1) k0 k1 q (ks.map iE,acc,(j:Int))=W (AM (ks.drop j) j acc)
 |0,q+1,j,acc,h,_,_=>by
  obtain rfl:j=ks.length:=by omega
  rw[rd];simp only[fO,lβ,bX,aR,List.drop_length,AM,hk1]
 |e+1,q+1,j,acc,h,hq,ha=>by
  have hj:j<ks.length:=by omega
  obtain⟨w,g1,g2,g3⟩:=aih ks[j];have e1:∀K:KV,br lay0.tab (m+1) 237 [.p (.int .i64 ks[j])] [] K=K (.p (.int .i64 (w:Int))) []:=fun K=>by
   rw[ab (B6 (n:=m) ks[j]),g1]
  have hw:ag .i64 ((w:Int)+1)=((w+1:Nat):Int):=wBr (by omega);rw[rd,lξ hj];simp only[fO,lβ,cG (show((j:Int)<(ks.length:Int)) by omega),aO,aE,aM,aI hj,bf,dI,e1,ba,bz,aC,hw,bE,show(0:Int)≤((w+1:Nat):Int) by omega,show((w+1:Nat):Int)≤(([117,98,105,115,73,83]:List Nat).length:Int) by simp;omega,show(0:Int)≤(w:Int) by omega,show(w:Int)≤((w+1:Nat):Int) by omega,decide_true,Int.toNat_natCast,g3,wS (show j<bT by unfold bT;omega),AM,hk0,hk1];have hb:Nat.ble (acc.length+([lc ks[j]]:List Nat).length) kR=true:=by rw[Nat.ble_eq];unfold kR;simp;omega
  simp only[hb,aO];cases aX (j:Int) 4
  ·rfl
  ·cases aX ks[j] 0
   ·cases aX 5 ks[j]
    ·exact O9 ks hl k0 k1 W hk0 hk1 e q (j+1) (acc++[lc ks[j]]) (by omega) (by omega) (by simp;omega)
    ·rfl
   ·rfl
theorem Jf {n:Nat}(ks:List Int)(hl:ks.length<1501):evFn lay0.tab (n+1503) 185 [.p (.slice 1 (ks.map iE))] []=some (.p (.str (AM ks 0 [])),[]):=by
 apply JY (n+1502) (ks.map iE);exact O9 (m:=n+1501) ks hl _ _ (fun s=>some (.p (.str s),[])) (fun _=>rfl) (fun _ _ _=>rfl) ks.length (n+1502) 0 [] (by omega) (by omega) (by simp)
theorem Lf:∀(r:List Int) (j:Nat) (acc:List Nat),AM r j acc=[63]∨∃t,AM r j acc=acc++t
 |[],j,acc=> .inr ⟨[],by simp[AM]⟩
 |k::r,j,acc=>by
  simp only[AM];cases aX (j:Int) 4
  ·exact .inr ⟨[],by simp⟩
  ·cases aX k 0
   ·cases aX 5 k
    ·rcases Lf r (j+1) (acc++[lc k])with h|⟨t,h⟩
     ·exact .inl h
     ·exact .inr ⟨lc k::t,by simp only[cond_true,cond_false];rw[h];simp⟩
    ·exact .inl rfl
   ·exact .inl rfl
theorem aeZ (k:Int):lc k≠63:=by
 unfold lc;cases av k 1<;>cases av k 2<;>cases av k 3<;>cases av k 4<;>cases av k 5<;>decide
theorem agI {k p:Int}(h0:0≤k)(h5:k≤5)(p1:1≤p)(p5:p≤5)(h:lc k=lc p):k=p:=by
 have a:k=0∨k=1∨k=2∨k=3∨k=4∨k=5:=by omega
 have b:p=1∨p=2∨p=3∨p=4∨p=5:=by omega
 rcases a with rfl|rfl|rfl|rfl|rfl|rfl<;>rcases b with rfl|rfl|rfl|rfl|rfl<;>first|rfl|(exact absurd h (by decide))
theorem aaQ:∀(ks P:List Int) (j:Nat) (acc:List Nat),j+P.length≤3→63∉acc→(∀p∈P,1≤p∧p≤5)→(AM ks j acc=acc++P.map lc↔ks=P)
 |[],P,j,acc,_,_,_=>by
  simp only[AM];constructor
  ·intro h;have:=congrArg List.length h;simp at this;rw[this]
  ·rintro rfl;simp
 |k::r,P,j,acc,hj,ha,hP=>by
  have h63:∀Q:List Int,[63]≠acc++Q.map lc:=by
   intro Q h;have:63∈acc++Q.map lc:=by rw[←h];simp
   rcases mρ.1 this with h|h
   ·exact ha h
   ·obtain⟨p,_,hp⟩:=List.mem_map.1 h;exact aeZ p hp
  have hj4:aX (j:Int) 4=true:=cG (by omega);simp only[AM,hj4,cond_true];by_cases h0:k<0
  ·rw[cG h0,cond_true];refine⟨fun h=>absurd h (h63 P),?_⟩
   rintro rfl
   have:=(hP k (lυ ..)).1;omega
  ·rw[u0 h0,cond_false];by_cases h5:5<k
   ·rw[cG h5,cond_true];refine⟨fun h=>absurd h (h63 P),?_⟩
    rintro rfl
    have:=(hP k (lυ ..)).2;omega
   ·rw[u0 h5,cond_false];cases P with
    |nil=>
     constructor
     ·intro h;rcases Lf r (j+1) (acc++[lc k])with g|⟨t,g⟩
      ·rw[g]at h;exact absurd h (h63 [])
      ·rw[g]at h;have:=congrArg List.length h;simp at this
     ·intro h;cases h
    |cons p P=>
     simp only[List.length_cons]at hj;have hp:=hP p (lυ ..);by_cases hkp:k=p
     ·subst hkp;have ih:=aaQ r P (j+1) (acc++[lc k]) (by omega) (by
       intro h;rcases mρ.1 h with h|h
       ·exact ha h
       ·exact aeZ k (List.mem_singleton.1 h).symm) fun p h=>hP p (lψ _ h)
      rw[mκ,List.singleton_append]at ih;rw[List.map_cons,ih];simp
     ·constructor
      ·intro h;rcases Lf r (j+1) (acc++[lc k])with g|⟨t,g⟩
       ·rw[g]at h;exact absurd h (h63 (p::P))
       ·rw[g,mκ]at h;have:=List.append_cancel_left h;simp only[List.map_cons,List.singleton_append,lμ]at this;exact absurd (agI (by omega) (by omega) hp.1 hp.2 this.1) hkp
      ·intro h;simp only[lμ]at h;exact absurd h.1 hkp
theorem agP (ks P:List Int)(hl:P.length≤3)(hP:∀p∈P,1≤p∧p≤5):aN (AM ks 0 []) (P.map lc)=decide (ks=P):=by
 rw[de];have:=aaQ ks P 0 [] (by omega) (by simp) hP;rw[List.nil_append]at this;exact decide_eq_decide.2 this
theorem HT {n:Nat}(ks:List Int)(el kd:Int)(hl:ks.length<1501):evFn lay0.tab (n+1502) 186 [.p (.slice 1 (ks.map iE)),.p (.int .i64 el),.p (.int .i64 kd)] []=some (.p (.int .i64 (bif ks.all (fun k=>av k el)then kd else -2)),[]):=by
 apply Vs (n+1501) (ks.map iE) el kd;refine(aT ks (fun q i=>n0 _ (n+1501) _ _ q (ks.map iE,el,kd,i)) (fun k=>!av k el) (fun i=>some (.p (.int .i64 (-2)),[])) (some (.p (.int .i64 kd),[])) (fun q i hi=>?_) (fun q=>?_) (by omega)).trans ?_
 ·rw[wZ];simp only[la,lβ,cG (show((i:Int)<(ks.length:Int)) by omega),aO,aE,aM,aI hi,bf,dI,wS (show i<bT by unfold bT;omega)];exact cU _ _ _
 ·rw[wZ];simp only[la,lβ,bX,aR]
 ·rw[dQ];cases ks.findIdx? fun k=>!av k el<;>rfl
def PO (s:List Nat)(ks:List Int):Int:=bif aN s [108,101,110]then(bif decide (ks=[3])then 1 else bif decide (ks=[4])then 1 else bif decide (ks=[5])then 1 else -2)else bif aN s [97,116]then(bif decide (ks=[4,1])then 1 else bif decide (ks=[5,1])then 3 else -2)else bif aN s [97,112,112,101,110,100]then(bif decide (ks=[4,1])then 4 else bif decide (ks=[5,3])then 5 else -2)else bif aN s [115,101,116]then(bif decide (ks=[4,1,1])then 4 else bif decide (ks=[5,1,3])then 5 else -2)else bif aN s [115,116,114]then(bif decide (ks=[1])then 3 else -2)else bif aN s [105,110,116,115]then(bif ks.all (fun k=>av k 1)then 4 else -2)else bif aN s [115,116,114,105,110,103,115]then(bif ks.all (fun k=>av k 3)then 5 else -2)else -1
theorem Je {n:Nat}(s:List Nat)(ks:List Int)(hl:ks.length<1501):evFn lay0.tab (n+1504) 131 [.p (.str s),.p (.slice 1 (ks.map iE))] []=some (.p (.int .i64 (PO s ks)),[]):=by
 apply JX (n+1503) s (ks.map iE);have e1:=ab (Jf (n:=n) ks hl);have e2:=ab (HT (n:=n+1) ks 1 4 hl);have e3:=ab (HT (n:=n+1) ks 3 5 hl);have p (P:List Int) (hl:P.length≤3) (hP:∀p∈P,1≤p∧p≤5):=agP ks P hl hP;have l1:=p [3] (by decide) (by decide);have l2:=p [4] (by decide) (by decide);have l3:=p [5] (by decide) (by decide);have l4:=p [4,1] (by decide) (by decide);have l5:=p [5,1] (by decide) (by decide);have l6:=p [5,3] (by decide) (by decide);have l7:=p [4,1,1] (by decide) (by decide);have l8:=p [5,1,3] (by decide) (by decide);have l9:=p [1] (by decide) (by decide);simp only[List.map_cons,List.map_nil,show lc 1=105 from rfl,show lc 3=115 from rfl,show lc 4=73 from rfl,show lc 5=83 from rfl]at l1 l2 l3 l4 l5 l6 l7 l8 l9;simp only[qj,e1,e2,e3,ba,af6,bz,aC,l1,l2,l3,l4,l5,l6,l7,l8,l9,KG,PO]
theorem aha (s:List Nat)(ks:List Int):((fX s ks).2=0↔¬PO s ks<0)∧((fX s ks).2=0→PO s ks=(fX s ks).1):=by
 by_cases h0:s=[108,101,110]
 ·subst h0;by_cases a0:ks=[3]
  ·subst a0;decide
  by_cases a1:ks=[4]
  ·subst a1;decide
  by_cases a2:ks=[5]
  ·subst a2;decide
  simp[fX,PO,Qp,HO,de,a0,show ¬[3]=ks from fun e=>a0 e.symm,a1,show ¬[4]=ks from fun e=>a1 e.symm,a2,show ¬[5]=ks from fun e=>a2 e.symm]
 by_cases h1:s=[97,116]
 ·subst h1;by_cases a0:ks=[4,1]
  ·subst a0;decide
  by_cases a1:ks=[5,1]
  ·subst a1;decide
  simp[fX,PO,Qp,HO,de,a0,show ¬[4,1]=ks from fun e=>a0 e.symm,a1,show ¬[5,1]=ks from fun e=>a1 e.symm]
 by_cases h2:s=[97,112,112,101,110,100]
 ·subst h2;by_cases a0:ks=[4,1]
  ·subst a0;decide
  by_cases a1:ks=[5,3]
  ·subst a1;decide
  simp[fX,PO,Qp,HO,de,a0,show ¬[4,1]=ks from fun e=>a0 e.symm,a1,show ¬[5,3]=ks from fun e=>a1 e.symm]
 by_cases h3:s=[115,101,116]
 ·subst h3;by_cases a0:ks=[4,1,1]
  ·subst a0;decide
  by_cases a1:ks=[5,1,3]
  ·subst a1;decide
  simp[fX,PO,Qp,HO,de,a0,show ¬[4,1,1]=ks from fun e=>a0 e.symm,a1,show ¬[5,1,3]=ks from fun e=>a1 e.symm]
 by_cases h4:s=[115,116,114]
 ·subst h4;by_cases a0:ks=[1]
  ·subst a0;decide
  simp[fX,PO,Qp,HO,de,a0,show ¬[1]=ks from fun e=>a0 e.symm]
 by_cases h5:s=[105,110,116,115]
 ·subst h5;cases ha:ks.all fun k=>av k 1<;>simp[fX,PO,de,ha]
 by_cases h6:s=[115,116,114,105,110,103,115]
 ·subst h6;cases ha:ks.all fun k=>av k 3<;>simp[fX,PO,de,ha]
 simp[fX,PO,Qp,HO,de,h0,h1,h2,h3,h4,h5,h6]
theorem U3 {n:Nat}(ks:List Int)(i:Int)(hl:ks.length<1501):evFn lay0.tab (n+1502) 187 [.p (.slice 1 (ks.map iE)),.p (.int .i64 i)] []=some (.p (.int .i64 (jR (ks.findIdx? fun k=>av k i))),[]):=by
 apply Vu (n+1501) (ks.map iE) i;refine(aT ks (fun q j=>n5 _ (n+1501) _ _ q (ks.map iE,i,j)) (fun k=>av k i) (fun j=>some (.p (.int .i64 j),[])) (some (.p (.int .i64 (-1)),[])) (fun q j hj=>?_) (fun q=>?_) (by omega)).trans ?_
 ·rw[w4];simp only[lb,lβ,cG (show((j:Int)<(ks.length:Int)) by omega),aO,aE,aM,aI hj,bf,dI,wS (show j<bT by unfold bT;omega)];exact cU _ _ _
 ·rw[w4];simp only[lb,lβ,bX,aR]
 ·cases ks.findIdx? fun k=>av k i<;>rfl
end
end Go.Ab
end
section
namespace Go.Ab
open Go
set_option maxRecDepth 100000
noncomputable section
theorem QH {n:Nat}(a b:Ac):evFn lay0.tab (n+1) 85 [.p a.e,.box 0 0] [b.r.b]=some (.p (.bool (decide (a.name=b.name))),[b.r.b]):=by
 apply Re n a.r b.r;unfold vy;show iL (aN a.name b.name) _ _=_;rw[de];cases decide (a.name=b.name)<;>rfl
theorem QI {n:Nat}(a b:Me):evFn lay0.tab (n+1) 87 [.p a.e,.box 0 0] [b.r.b]=some (.p (.bool (decide (a.name=b.name))),[b.r.b]):=by
 apply Rf n a.r b.r;unfold vz;show iL (aN a.name b.name) _ _=_;rw[de];cases decide (a.name=b.name)<;>rfl
theorem aay (o:Option Nat):bm 0 (jR o)=o.isSome:=by cases o<;>simp[jR,bE]
theorem XB {n:Nat}(ts:List Ac)(y:Ac)(h:ts.length<1501):evFn lay0.tab (n+1504) 46 [.p (.slice 3 (ts.map Ac.e)),.fn 85 [.box 0 0]] [y.r.b]=some (.p (.bool (ts.any fun t=>decide (t.name=y.name))),[y.r.b]):=by
 have hi:evFn lay0.tab (n+1503) 81 [.p (.slice 3 (ts.map Ac.e)),.fn 85 [.box 0 0]] [y.r.b]=some (.p (.int .i64 (jR (ts.findIdx? fun t=>decide (t.name=y.name)))),[y.r.b]):=by
  apply Rt (n+1502) (ts.map Ac.e) y.r;unfold vL;rw[lβ];refine(aT ts (fun q i=>lZ _ (n+1502) _ _ q (ts.map Ac.e,(ts.length:Int),i,y.r)) (fun t=>decide (t.name=y.name)) (fun i=>some (.p (.int .i64 i),[y.r.b])) (some (.p (.int .i64 (-1)),[y.r.b])) (fun q i hi=>?_) (fun q=>?_) (by omega)).trans ?_
  ·rw[uQ];simp only[jI,cG (show((i:Int)<(ts.length:Int)) by omega),aO,aE,aM,aI hi,bf,GZ,wS (show i<bT by unfold bT;omega)];have:=QH (n:=n+1501) ts[i] y;simp only[Ac.e]at this;simp only[ab this,ba,aD,bt];exact cU _ _ _
  ·rw[uQ];simp only[jI,bX,aR]
  ·cases ts.findIdx? fun t=>decide (t.name=y.name)<;>rfl
 apply XY (n+1503) (ts.map Ac.e) y.r;unfold DV;simp only[ab hi,ba,bz,bt,aay];rw[List.findIdx?_isSome];cases ts.any (fun t=>decide (t.name=y.name))<;>rfl
theorem Xz {n:Nat}(ts:List Me)(y:Me)(h:ts.length<1501):evFn lay0.tab (n+1504) 86 [.p (.slice 4 (ts.map Me.e)),.fn 87 [.box 0 0]] [y.r.b]=some (.p (.bool (ts.any fun t=>decide (t.name=y.name))),[y.r.b]):=by
 have hi:evFn lay0.tab (n+1503) 90 [.p (.slice 4 (ts.map Me.e)),.fn 87 [.box 0 0]] [y.r.b]=some (.p (.int .i64 (jR (ts.findIdx? fun t=>decide (t.name=y.name)))),[y.r.b]):=by
  apply Rs (n+1502) (ts.map Me.e) y.r;unfold vK;rw[lβ];refine(aT ts (fun q i=>lY _ (n+1502) _ _ q (ts.map Me.e,(ts.length:Int),i,y.r)) (fun t=>decide (t.name=y.name)) (fun i=>some (.p (.int .i64 i),[y.r.b])) (some (.p (.int .i64 (-1)),[y.r.b])) (fun q i hi=>?_) (fun q=>?_) (by omega)).trans ?_
  ·rw[uP];simp only[jH,cG (show((i:Int)<(ts.length:Int)) by omega),aO,aE,aM,aI hi,bf,QB,wS (show i<bT by unfold bT;omega)];have:=QI (n:=n+1501) ts[i] y;simp only[Me.e]at this;simp only[ab this,ba,aD,bt];exact cU _ _ _
  ·rw[uP];simp only[jH,bX,aR]
  ·cases ts.findIdx? fun t=>decide (t.name=y.name)<;>rfl
 apply XW (n+1503) (ts.map Me.e) y.r;unfold DS;simp only[ab hi,ba,bz,bt,aay];rw[List.findIdx?_isSome];cases ts.any (fun t=>decide (t.name=y.name))<;>rfl
def Ck:List (List Nat×Vr)→List Fe→Nat→Option (List (List Nat×Vr))
 |acc,[],_=>some acc
 |acc,x::r,k=>match c8 acc x.name with
  |some _=>none
  |none=>Ck (nK acc x.name ⟨x.kind,k,true⟩) r (k+1)
inductive An where
 |bad (t m n e:Int)
 |good (bs:List (List CS))
def Cy (f:Nat)(p:List Ac)(fs:List (List Nat×Vr))(i:Nat)(all:List Me):List Me→Nat→List CS→Option (An ⊕ List CS)
 |[],_,acc=>some (.inr acc)
 |m::r,j,acc=>if((all.take j).any fun x=>decide (x.name=m.name))=true then some (.inl (.bad i j (-1) 7))else match pb f p fs m with
  |none=>none
  |some none=>some (.inl (.bad i j (-1) 7))
  |some (some c)=>if c.er=0 then Cy f p fs i all r (j+1) (acc++[c])else some (.inl (.bad i j c.nd c.er))
def CZ (f:Nat)(p:List Ac):List Ac→Nat→List (List CS)→Option An
 |[],_,acc=>some (.good acc)
 |a::r,j,acc=>if((p.take j).any fun x=>decide (x.name=a.name))=true then some (.bad j (-1) (-1) 7)else match Ck [] a.fields 0 with
  |none=>some (.bad j (-1) (-1) 7)
  |some fs=>match Cy f p fs j a.methods a.methods 0 []with
   |none=>none
   |some (.inl e)=>some e
   |some (.inr b)=>CZ f p r (j+1) (acc++[b])
def plD (t m n:Int):Da:= .agg [.int .i64 t,.int .i64 m,.int .i64 n]
def sX (p:List Ac)(bs:List (List CS)):po:=⟨p.map Ac.e,bs.length,bs.map fun l=> .slice 3 (l.map fe)⟩
def VO (p:List Ac):An→R
 | .bad t m n e=>some (.tup [.p .nilptr,.p (plD t m n),.p (.int .i64 e)],[])
 | .good bs=>some (.tup [.box 0 0,.p (plD 0 0 0),.p (.int .i64 0)],(sX p bs).hp)
theorem OB {m:Nat}(ti tl:Int)(ty:LD)(fl:List Fe)(P:aa)(I:po)(A:ae)(k0:aa×Int×po×ae×LD×LD×bS×bA→R)(k1:Int×LD×Int×Int×LD×Int×Int×Bool×aa×po×ae×LD×LD→R)(Z:R)(hk0:∀a b c d,k0 (P,ti,I,A,a,b,c,d)=Z)(hl:fl.length<1501):∀(e q j:Nat) (acc:List (List Nat×Vr)),j+e=fl.length→e<q→
  L_Analyze_2 (br lay0.tab m) m k0 k1 q (ti,ty,tl,ti,fl.map Fe.e,(fl.length:Int),(j:Int),P,I,A,acc.map (fun p=> .str p.1),acc.map (fun p=>p.2.e))=match Ck acc (fl.drop j) j with
   |none=>Z
   |some fs=>k1 (ti,ty,tl,ti,fl.map Fe.e,(fl.length:Int),(fl.length:Int),false,P,I,A,fs.map (fun p=> .str p.1),fs.map (fun p=>p.2.e))
 |0,q+1,j,acc,h,_=>by
  obtain rfl:j=fl.length:=by omega
  rw[wU];simp only[kZ,bX,aR,List.drop_length,Ck]
 |e+1,q+1,j,acc,h,hq=>by
  have hj:j<fl.length:=by omega
  rw[wU,lξ hj];have hn:fl[j].r.Name=fl[j].name:=rfl;have hkd:fl[j].r.Kind=fl[j].kind:=rfl;simp only[kZ,cG (show((j:Int)<(fl.length:Int)) by omega),aO,aE,aM,aI hj,bf,dFe,wS (show j<bT by unfold bT;omega),hn,hkd,Ck];rw[lkS];cases hg:c8 acc fl[j].name with
  |some v=>simp only[WH,dVr,hk0]
  |none=>
   simp only[aaR];refine Eq.trans (upS acc fl[j].name Vr.e ⟨fl[j].kind,(j:Int),true⟩ fun a b=>L_Analyze_2 (br lay0.tab m) m k0 k1 q (ti,ty,tl,ti,fl.map Fe.e,(fl.length:Int),((j+1:Nat):Int),P,I,A,a,b)) ?_
   exact OB ti tl ty fl P I A k0 k1 Z hk0 hl e q (j+1) _ (by omega) (by omega)
structure SzM (m:Me):Prop where
 ns:m.nodes.length<1501
 ks:∀x∈m.nodes,x.kids.length<1501
 ps:m.params.length<1501
structure SzP (p:List Ac):Prop where
 ty:p.length<1501
 me:∀a∈p,a.methods.length<1501
 fl:∀a∈p,a.fields.length<1501
 mm:∀a∈p,∀m∈a.methods,SzM m
theorem Pc {f n:Nat}(p:List Ac)(hp:SzP p)(ti:Nat)(tl:Int)(ty:LD)(a:Ac)(ha:a∈p)(fs:List (List Nat×Vr))(I:po)(k0:aa×Int×Int×po×ae×LD×ah→R)(k1:Int×aa×bq×po×ae×LD×ah×dG→R)(k2:Int×LD×LD×Nat×LD×Int×Int×LD×Int×Int×Bool×aa×po×ae×LD→R)
  (hk0:∀a b c d e f g,k0 (a,b,c,d,e,f,g)=VO p (.bad b c (-1) 7)) (hk1:∀a b c d e f g h,k1 (a,b,c,d,e,f,g,h)=VO p (.bad c.Type_ c.Method c.Node a)):∀(e q j:Nat) (acc:List CS) (o:An ⊕ List CS),j+e=a.methods.length→e<q→acc.length≤j→Cy f p fs ti a.methods (a.methods.drop j) j acc=some o→
  L_Analyze_3 (br lay0.tab (n+3*f+4504)) (n+3*f+4504) k0 k1 k2 q ((ti:Int),fs.map (fun p=> .str p.1),fs.map (fun p=>p.2.e),acc.length,ty,tl,(ti:Int),a.methods.map Me.e,(a.methods.length:Int),(j:Int),⟨p.map Ac.e⟩,I,a.r,acc.map fe)=match o with
   | .inl e=>VO p e
   | .inr l=>k2 ((ti:Int),fs.map (fun p=> .str p.1),fs.map (fun p=>p.2.e),l.length,ty,tl,(ti:Int),a.methods.map Me.e,(a.methods.length:Int),(a.methods.length:Int),false,⟨p.map Ac.e⟩,I,a.r,l.map fe)
 |0,q+1,j,acc,o,h,_,hac,hm=>by
  obtain rfl:j=a.methods.length:=by omega
  rw[List.drop_length]at hm;simp only[Cy,lα]at hm;subst hm;rw[wV];simp only[k6,bX,aR]
 |e+1,q+1,j,acc,o,h,hq,hac,hm=>by
  have hj:j<a.methods.length:=by omega
  have hml:=hp.me a ha;rw[lξ hj]at hm;simp only[Cy]at hm;rw[wV];have hlm:(List.length a.r.Methods:Int)=a.methods.length:=by show((a.methods.map Me.e).length:Int)=_;rw[lβ]
  have htk:List.take (Int.toNat (j:Int) - 0) (List.drop 0 a.r.Methods)=(a.methods.take j).map Me.e:=by
   rw[List.drop_zero,Nat.sub_zero,Int.toNat_natCast,List.map_take];rfl
  simp only[k6,cG (show((j:Int)<(a.methods.length:Int)) by omega),aO,aE,aM,aI hj,bf,QB,wS (show j<bT by unfold bT;omega),bE,hlm,show(0:Int)≤(j:Int) by omega,decide_true,show(j:Int)≤(a.methods.length:Int) by omega,htk];obtain⟨n1,hn1⟩:∃n1,n+3*f+4504=n1+1504:=⟨n+3*f+3000,by omega⟩
  have hc:=Xz (n:=n1) (a.methods.take j) a.methods[j] (by simp;omega);rw[←hn1]at hc;simp only[ab hc,ba,aD,bt];cases hd:(a.methods.take j).any fun x=>decide (x.name=a.methods[j].name)
  ·rw[hd]at hm;simp only[Bool.false_eq_true,if_false]at hm;rw[aR];have sm:=hp.mm a ha _ (lι hj);have run:∀o1,pb f p fs a.methods[j]=some o1→evFn lay0.tab (n+3*f+4504) 88 [.p (aa.e ⟨p.map Ac.e⟩),.p (.map (fs.map fun p=> .str p.1) (fs.map fun p=>p.2.e)),.p a.methods[j].r.e] []=some (V8 o1,[]):=fun o1 h1=>abF p fs a.methods[j] o1 h1 hp.ty hp.me sm.ns sm.ks sm.ps
   cases hck:pb f p fs a.methods[j]with
   |none=>rw[hck]at hm;cases hm
   |some o1=>
    rw[hck]at hm;rw[ab (run o1 hck)];cases o1 with
    |none=>
     simp only[lα]at hm;subst hm;exact hk1 7 ⟨p.map Ac.e⟩ ⟨ti,j,-1⟩ I a.r (acc.map fe) a.methods[j].r ⟨[],.nilmap,.nilmap⟩
    |some c=>
     simp only at hm;show iL (!av c.er 0) _ _=_;rw[aW,co];by_cases h0:c.er=0
     ·rw[if_pos h0]at hm ⊢
      have hb1:Nat.beq acc.length (acc.map fe).length=true:=by simp
      have hb2:cR ((acc.map fe).length+[fe c].length) 40=true:=jK (by simp;omega) (by decide);have key:=Pc (n:=n) p hp ti tl ty a ha fs I k0 k1 k2 hk0 hk1 e q (j+1) (acc++[c]) o (by omega) (by omega) (by simp;omega) hm;rw[←key];show iL (Nat.beq acc.length (acc.map fe).length) (iL (cR ((acc.map fe).length+[fe c].length) 40) _ _) _=_;rw[hb1,hb2,aO,aO];have hap:acc.map fe++[fe c]=(acc++[c]).map fe:=by simp
      show L_Analyze_3 _ _ k0 k1 k2 q (_,_,_,List.length (acc.map fe++[fe c]),_,_,_,_,_,_,_,_,_,acc.map fe++[fe c])=_;rw[hap,lβ]
     ·rw[if_neg h0]at hm ⊢
      simp only[lα]at hm;subst hm;exact hk1 c.er ⟨p.map Ac.e⟩ ⟨ti,j,c.nd⟩ I a.r (acc.map fe) a.methods[j].r _
  ·rw[hd]at hm;simp only[if_true,lα]at hm;subst hm;rw[aO,hk0]
theorem Qs {f n:Nat}(p:List Ac)(hp:SzP p)(k0:aa×Int×po×ae→R)(k1:aa×Int×po×ae×LD×LD×bS×bA→R)(k2:aa×Int×Int×po×ae×LD×ah→R)(k3:Int×aa×bq×po×ae×LD×ah×dG→R)(k4:LD×Int×Int×Bool×aa×po→R)
  (hk0:∀a b c d,k0 (a,b,c,d)=VO p (.bad b (-1) (-1) 7)) (hk1:∀a b c d e f g h,k1 (a,b,c,d,e,f,g,h)=VO p (.bad b (-1) (-1) 7)) (hk2:∀a b c d e f g,k2 (a,b,c,d,e,f,g)=VO p (.bad b c (-1) 7)) (hk3:∀a b c d e f g h,k3 (a,b,c,d,e,f,g,h)=VO p (.bad c.Type_ c.Method c.Node a)) (hk4:∀a b c d e bs,k4 (a,b,c,d,e,sX p bs)=VO p (.good bs)):
  ∀(e q j:Nat) (acc:List (List CS)) (o:An),j+e=p.length→e<q→acc.length≤j→CZ f p (p.drop j) j acc=some o→
  L_Analyze_1 (br lay0.tab (n+3*f+4504)) (n+3*f+4504) k0 k1 k2 k3 k4 q (p.map Ac.e,(p.length:Int),(j:Int),⟨p.map Ac.e⟩,sX p acc)=VO p o
 |0,q+1,j,acc,o,h,_,hac,ht=>by
  obtain rfl:j=p.length:=by omega
  rw[List.drop_length]at ht;simp only[CZ,lα]at ht;subst ht;rw[wT];simp only[kY,bX,aR,hk4]
 |e+1,q+1,j,acc,o,h,hq,hac,ht=>by
  have hj:j<p.length:=by omega
  have hty:=hp.ty;rw[lξ hj]at ht;simp only[CZ]at ht;rw[wT];have htk:List.take (Int.toNat (j:Int) - 0) (List.drop 0 (p.map Ac.e))=(p.take j).map Ac.e:=by
   rw[List.drop_zero,Nat.sub_zero,Int.toNat_natCast,List.map_take]
  simp only[kY,cG (show((j:Int)<(p.length:Int)) by omega),aO,aE,aM,aI hj,bf,GZ,wS (show j<bT by unfold bT;omega),bE,lβ,show(0:Int)≤(j:Int) by omega,decide_true,show(j:Int)≤(p.length:Int) by omega,htk];obtain⟨n1,hn1⟩:∃n1,n+3*f+4504=n1+1504:=⟨n+3*f+3000,by omega⟩
  have hc:=XB (n:=n1) (p.take j) p[j] (by simp;omega);rw[←hn1]at hc;simp only[ab hc,ba,aD,bt];cases hd:(p.take j).any fun x=>decide (x.name=p[j].name)
  ·rw[hd]at ht;simp only[Bool.false_eq_true,if_false]at ht;rw[aR];have hmem:p[j]∈p:=lι hj;have fl:=fun(k0:aa×Int×po×ae×LD×LD×bS×bA→R) k1 Z (hkk:∀a b c d,k0 (⟨p.map Ac.e⟩,(j:Int),sX p acc,p[j].r,a,b,c,d)=Z)=>OB (m:=n+3*f+4504) (j:Int) (p.length:Int) (p.map Ac.e) p[j].fields ⟨p.map Ac.e⟩ (sX p acc) p[j].r k0 k1 Z hkk (hp.fl _ hmem) p[j].fields.length (n+3*f+4504) 0 [] (by omega) (by have:=hp.fl _ hmem;omega)
   simp only[List.map_nil,List.drop_zero,show((0:Nat):Int)=0 from rfl]at fl;have hlf:(List.length p[j].r.Fields:Int)=p[j].fields.length:=by show((p[j].fields.map Fe.e).length:Int)=_;rw[lβ]
   rw[hlf];refine Eq.trans (fl _ _ (VO p (.bad j (-1) (-1) 7)) fun a b c d=>hk1 _ _ _ _ _ _ _ _) ?_
   cases hf:Ck [] p[j].fields 0 with
   |none=>
    rw[hf]at ht;simp only[lα]at ht;subst ht;rfl
   |some fs=>
    rw[hf]at ht;simp only at ht;cases hm:Cy f p fs j p[j].methods p[j].methods 0 []with
    |none=>rw[hm]at ht;cases ht
    |some om=>
     rw[hm]at ht;have ml:=fun k0 k1 k2 h0 h1=>Pc (n:=n) p hp j (p.length:Int) (p.map Ac.e) p[j] hmem fs (sX p acc) k0 k1 k2 h0 h1 p[j].methods.length (n+3*f+4504) 0 [] om (by omega) (by have:=hp.me _ hmem;omega) (by simp) (by rw[List.drop_zero];exact hm)
     simp only[List.map_nil,List.length_nil,show((0:Nat):Int)=0 from rfl]at ml;have hlm:(List.length p[j].r.Methods:Int)=p[j].methods.length:=by show((p[j].methods.map Me.e).length:Int)=_;rw[lβ]
     simp only[hlm];refine Eq.trans (ml _ _ _ (fun a b c d e f g=>hk2 _ _ _ _ _ _ _) (fun a b c d e f g h=>hk3 _ _ _ _ _ _ _ _)) ?_;cases om with
     |inl e=>simp only[lα]at ht;subst ht;rfl
     |inr l=>
      simp only at ht;have key:=Qs (n:=n) p hp k0 k1 k2 k3 k4 hk0 hk1 hk2 hk3 hk4 e q (j+1) (acc++[l]) o (by omega) (by omega) (by simp;omega) ht;rw[←key];have htl:List.take l.length (List.drop 0 (l.map fe))=l.map fe:=by
       rw[List.drop_zero];have:=List.take_length (l:=l.map fe);rwa [lβ]at this
      have hb1:Nat.beq (sX p acc).bn (List.length (sX p acc).bs)=true:=by simp[sX]
      have hb2:cR (List.length (sX p acc).bs+[Da.slice 3 (l.map fe)].length) 24=true:=jK (by simp[sX];omega) (by decide);simp only[htl,hb1,hb2,aO];have hi:po.mk (sX p acc).ty (List.length ((sX p acc).bs++[Da.slice 3 (l.map fe)])) ((sX p acc).bs++[Da.slice 3 (l.map fe)])=sX p (acc++[l]):=by
       simp[sX]
      rw[hi,wS (show j<bT by unfold bT;omega)]
  ·rw[hd]at ht;simp only[if_true,lα]at ht;subst ht;rw[aO,hk0]
theorem UV {f n:Nat}(p:List Ac)(hp:SzP p)(b:Bool)(o:An)(hv:evFn lay0.tab (n+3*f+4504) 84 [.p (.agg [.slice 3 (p.map Ac.e)])] []=some (.p (.bool b),[]))(ho:o= .bad 0 0 0 1∧b=false∨b=true∧CZ f p p 0 []=some o):evFn lay0.tab (n+3*f+4505) 53 [.p (.agg [.slice 3 (p.map Ac.e)])] []=VO p o:=by
 have key:pk (br lay0.tab (n+3*f+4504)) (n+3*f+4504) ⟨p.map Ac.e⟩=VO p o:=by
  unfold pk;have hv':evFn lay0.tab (n+3*f+4504) 84 [.p (aa.e ⟨p.map Ac.e⟩)] []=some (.p (.bool b),[]):=hv;simp only[ab hv',ba,aD,aC];rcases ho with⟨rfl,rfl⟩|⟨rfl,ht⟩
  ·rfl
  ·show L_Analyze_1 _ _ _ _ _ _ _ _ (p.map Ac.e,((p.map Ac.e).length:Int),0,⟨p.map Ac.e⟩,po.mk (p.map Ac.e) 0 [])=_;rw[lβ];exact Qs (n:=n) p hp _ _ _ _ _ (fun a b c d=>rfl) (fun a b c d e f g h=>rfl) (fun a b c d e f g=>rfl) (fun a b c d e f g h=>rfl) (fun a b c d e bs=>rfl) p.length (n+3*f+4504) 0 [] o (by omega) (by have:=hp.ty;omega) (by simp) (by rw[List.drop_zero];exact ht)
 cases o with
 |bad t m n e=>exact z6 _ ⟨p.map Ac.e⟩ _ key
 |good bs=>exact z6 _ ⟨p.map Ac.e⟩ _ key
end
end Go.Ab
end
