import Derived.Test.YtlfhmmbmjkadiaaGreatDoorKg0
import Derived.Test.YtlfhmmbmjkadiaaGreatDoorOg1
import Derived.Test.YtlfhmmbmjkadiaaGreatDoorOg2
import Derived.Test.YtlfhmmbmjkadiaaGreatDoorOg3
set_option linter.all false
section
namespace Go.Ab
open Go
set_option maxRecDepth 100000
noncomputable section
theorem TW {n:Nat}(xs ys:List Int)(lo len:Nat)(hl:lo+len≤xs.length)(h:len<1501):evFn lay0.tab (n+1503) 48 [.arr 0 lo len 1,.p (.slice 1 (ys.map iE))] [.arr (xs.map iE)]=some (.p (.bool (decide ((xs.drop lo).take len=ys))),[.arr (xs.map iE)]):=by
 apply Ur (n+1502) (xs.map iE) lo len (ys.map iE);have hzl:((xs.drop lo).take len).length=len:=by simp;omega
 simp only[yM,lβ,aT,cr];by_cases he:len=ys.length
 ·rw[if_pos (by omega)];have hl2:((xs.drop lo).take len).length=ys.length:=by omega
  refine(aV (((xs.drop lo).take len).zip ys) (fun q i=>nE _ (n+1502) _ _ q (lo,len,ys.map iE,(len:Int),i,xs.map iE)) (fun t=>!aw t.1 t.2) (fun i=>some (.p (.bool false),[.arr (xs.map iE)])) (some (.p (.bool true),[.arr (xs.map iE)])) (fun q i hi=>?_) (fun q=>?_) (by simp only[mμ];omega)).trans ?_
  ·simp only[mμ]at hi;rw[wb];have hg:(xs.map iE)[lo+i]?=some (iE (((xs.drop lo).take len)[i]'(by omega))):=by
    rw[lψ,lγ (by omega)];simp
   simp only[kM,cK (show((i:Int)<(len:Int)) by omega),aO,bJ,show(0:Int)≤(i:Int) by omega,decide_true,Int.toNat_natCast,hg,aE,aP,aM (show i<ys.length by omega),bf,dI,wS (show i<bZ by unfold bZ;omega),List.getElem_zip];exact dq _ _ _
  ·rw[wb];simp only[kM,mμ,hzl,←he,Nat.min_self,cb,aQ]
  ·have key:=pC aw hl2 aT;cases hf:(((xs.drop lo).take len).zip ys).findIdx? (fun t=>!aw t.1 t.2)with
   |none=>simp only[key.1 hf,decide_true]
   |some j=>
    have:¬(xs.drop lo).take len=ys:=fun e=>by rw[key.2 e]at hf;cases hf
    simp only[this,decide_false]
 ·rw[if_neg (by omega)];have:¬(xs.drop lo).take len=ys:=fun e=>he (by rw[←e];omega)
  simp only[this,decide_false]
theorem IX {n:Nat}(h:n≤1501):dW n 8=true:=by
 unfold dW;rw[lδ,Nat.ble_eq,Nat.ble_eq];omega
theorem HE {n:Nat}(ns:List No)(hkl:∀x∈ns,x.kids.length<1000000000000)(hl:ns.length<1501)(k0:LD×aF→R)(k1:fA→R)(hk0:∀a b,k0 (a,b)=some (.p (.bool false),[]))(hk1:∀a b c d e,k1 (a,b,c,d,e)=some (.p (.bool (decide (a=1))),[])):∀(e q i:Nat) (roots:List Int),i+e=ns.length→e<q→roots.length≤i→
  L_spostOrder_1 (bq lay0.tab (n+1503)) (n+1503) k0 k1 q (roots.length,ns.map No.e,(ns.length:Int),(i:Int),roots.map iE)=some (.p (.bool (dV (ns.drop i) i roots)),[])
 |0,q+1,i,roots,h,_,_=>by
  obtain rfl:i=ns.length:=by omega
  rw[qI];simp only[fN,cb,aQ,List.drop_length,dV,hk1]
 |e+1,q+1,i,roots,h,hq,hr=>by
  have hi:i<ns.length:=by omega
  have hx:ns[i]∈ns:=lι _;have hkx:=hkl _ hx;rw[qI,lξ hi];have hw:ag .i64 ((roots.length:Int) - ((ns[i].kids.map iE).length:Int))=(roots.length:Int) - (ns[i].kids.length:Int):=by
   rw[lβ,iD (by omega) (by omega)]
  simp only[fN,cK (show((i:Int)<(ns.length:Int)) by omega),aO,aE,aP,aM hi,bf,u0,pF,hw,dV];by_cases hlt:roots.length<ns[i].kids.length
  ·rw[if_pos hlt,cK (by omega),aO,hk0]
  ·rw[if_neg hlt,vp (by omega),aQ];have ht:((roots.length:Int) - (ns[i].kids.length:Int)).toNat=roots.length - ns[i].kids.length:=by omega
   have happ:roots.map iE=roots.map iE:=rfl;have hm:List.take (roots.length - ns[i].kids.length - 0) (roots.map iE)++[Da.int .i64 (i:Int)]=(roots.take (roots.length - ns[i].kids.length)++[(i:Int)]).map iE:=by
    rw[List.map_append,List.map_take];rfl
   have hb:dW ((List.take (roots.length - ns[i].kids.length - 0) (roots.map iE)).length+[Da.int .i64 (i:Int)].length) 8=true:=IX (by simp;omega);have hv:=aa (TW (n:=n) roots ns[i].kids (roots.length - ns[i].kids.length) (roots.length - (roots.length - ns[i].kids.length)) (by omega) (by omega));have hz:=aa (CH (n:=n) [] ns[i].kids (by simp));have hdr:(roots.drop (roots.length - ns[i].kids.length)).take (roots.length - (roots.length - ns[i].kids.length))=roots.drop (roots.length - ns[i].kids.length):=by
    rw[mι (by simp)]
   rw[hdr]at hv;simp only[List.map_nil]at hz;have hrec:=HE (n:=n) ns hkl hl k0 k1 hk0 hk1 e q (i+1) (roots.take (roots.length - ns[i].kids.length)++[(i:Int)]) (by omega) (by omega) (by simp;omega);simp only[bJ,show(0:Int)≤(roots.length:Int) - (ns[i].kids.length:Int) by omega,show(roots.length:Int) - (ns[i].kids.length:Int)≤(roots.length:Int) by omega,decide_true,aO,ht,Nat.zero_add,hv,hz,hb,hm,lβ,ba,aD,bG,hk0,wS (show i<bZ by unfold bZ;omega),hrec,XH,eK];by_cases hd:roots.drop (roots.length - ns[i].kids.length)=ns[i].kids
   ·rw[if_pos hd];by_cases h0:roots.length - ns[i].kids.length=roots.length
    ·have hk:([]:List Int)=ns[i].kids:=by rw[←hd,h0,List.drop_length]
     rw[if_pos h0,if_pos hk];simp only[hd,if_true];cases Nat.blt 0 roots.length<;>rfl
    ·rw[if_neg h0,if_pos hd]
   ·rw[if_neg hd];by_cases h0:roots.length - ns[i].kids.length=roots.length
    ·have hk:¬([]:List Int)=ns[i].kids:=fun e=>hd (by rw[←e];simp)
     rw[if_pos h0,if_neg hk];simp only[hd,if_false];cases Nat.blt 0 roots.length<;>rfl
    ·rw[if_neg h0,if_neg hd]
theorem H5 {n:Nat}(ns:List No)(hkl:∀x∈ns,x.kids.length<1000000000000)(hl:ns.length<1501):evFn lay0.tab (n+1504) 176 [.p (.slice 8 (ns.map No.e))] []=some (.p (.bool (dV ns 0 [])),[]):=by
 apply IQ (n+1503) (ns.map No.e);unfold pO;rw[lβ];refine(HE (n:=n) ns hkl hl _ _ (fun _ _=>rfl) (fun a b c d e=>?_) ns.length (n+1503) 0 [] (by omega) (by omega) (by simp)).trans rfl;show iL (aw (a:Int) 1) _ _=_;rw[bt,dH,aT];congr 4;rw[decide_eq_decide];omega
theorem tu {b:Nat}:∀(r:List No) (i:Nat) (roots:List Int),i+r.length=b→fh i roots→dV r i roots=true→∀x∈r,fh b x.kids
 |[],_,_,_,_,_,x,hx=>by cases hx
 |y::r,i,roots,hb,hr,h,x,hx=>by
  simp only[dV]at h;split at h
  ·cases h
  ·split at h
   ·rename_i hlen hdrop;simp only[List.length_cons]at hb;rcases mγ.1 hx with rfl|hx
    ·intro k hk;rw[←hdrop]at hk;obtain⟨g1,g2⟩:=hr k (mπ hk);exact⟨g1,by omega⟩
    ·refine tu r (i+1) _ (by omega) ?_ h x hx;intro k hk;rcases mρ.1 hk with hk|hk
     ·obtain⟨g1,g2⟩:=hr k (qα hk);exact⟨g1,by omega⟩
     ·simp only[List.mem_singleton]at hk;subst hk;omega
   ·cases h
structure SzN (x:No):Prop where
 iv:x.v.I.length<1501
 lv:x.v.L.length<1501
 ks:x.kids.length<1501
def fR (ns:List No):Bool:=dV ns 0 []&&(aw (cE ns ((ns.length - 1:Nat):Int)) 18&&((ns.all fun x=>ci ns x&&dw x)&&bu (w5 ns) 24))
theorem SK {ns:List No}{l:List Int}(h:fh ns.length l):∀k∈l,∃y,jI ns k=some y:=by
 intro k hk;obtain⟨g1,g2⟩:=h k hk;obtain⟨j,rfl⟩:∃j:Nat,k=(j:Int):=⟨k.toNat,by omega⟩
 exact⟨_,aM (by omega)⟩
theorem xF:∀(r:List No) (i:Nat) (roots:List Int),roots.length≤i→dV r i roots=true→∀x∈r,x.kids.length≤i+r.length
 |[],_,_,_,_,x,hx=>by cases hx
 |y::r,i,roots,hl,h,x,hx=>by
  simp only[dV]at h;split at h
  ·cases h
  ·rename_i hlt;split at h
   ·rcases mγ.1 hx with rfl|hx
    ·simp only[List.length_cons];omega
    ·have:=xF r (i+1) _ (by simp;omega) h x hx;simp only[List.length_cons];omega
   ·cases h
theorem H8 {n:Nat}(ns:List No)(hs:∀x∈ns,x.kids.length<1000000000000)(hl:ns.length<1501):evFn lay0.tab (n+1509) 126 [.p (.slice 8 (ns.map No.e))] []=some (.p (.bool (fR ns)),[]):=by
 apply IS (n+1508) (ns.map No.e);unfold pQ fR;simp only[aa (H5 (n:=n+4) ns hs hl),ba,aD,aC];cases hp:dV ns 0 []with
 |false=>rfl
 |true=>
  obtain⟨k,hsub,hk1⟩:=tv ns 0 [] rfl (Nat.zero_le _) .nil hp;have hks:∀x∈ns,x.kids.length<1501:=fun x hx=>by have:=xF ns 0 [] (by simp) hp x hx;omega
  have hkk:=tu (b:=ns.length) ns 0 [] (by omega) (fun k hk=>by cases hk) hp;have hw:ag .i64 (((ns.map No.e).length:Int) - 1)=((ns.length - 1:Nat):Int):=by rw[lβ,iD (by omega) (by omega)];omega
  have hlt:ns.length - 1<ns.length:=by omega
  simp only[hw,aO,aE,aP,aM hlt,bf,u0,tj,cE,Option.map_some,Option.getD_some,Bool.true_and];cases aw ns[ns.length - 1].op 18 with
  |false=>rfl
  |true=>
   simp only[Bool.not_true,aQ,Bool.true_and,lβ];refine(aV ns (fun q i=>jb _ (n+1508) _ _ q (ns.map No.e,ns.map No.e,(ns.length:Int),i)) (fun x=>!(ci ns x&&dw x)) (fun i=>some (.p (.bool false),[])) (some (.p (.bool (bu (w5 ns) 24)),[])) (fun q i hi=>?_) (fun q=>?_) (by omega)).trans ?_
   ·rw[qJ];have hx:ns[i]∈ns:=lι _;have e1:=aa (aaB (n:=n+3) ns ns[i] (SK (hkk _ hx)) (hks _ hx));have e2:=aa (LH (n:=n+1) ns[i]);simp only[No.e]at e1 e2;simp only[fO,cK (show((i:Int)<(ns.length:Int)) by omega),aO,aE,aP,aM hi,bf,u0,wS (show i<bZ by unfold bZ;omega),e1,e2,ba,aD,aC];cases ci ns ns[i]<;>cases dw ns[i]<;>rfl
   ·rw[qJ];simp only[fO,cb,aQ,aa (T0 (n:=n+5) ns (by omega) hkk hks hl),ba,bF,aC,bt,dH]
   ·rw[f4];cases ns.findIdx? fun x=>!(ci ns x&&dw x)<;>rfl
def ej (f:Fe):Bool:=cH f.name&&(gj f.kind&&(aw f.init.k f.kind&&(tK f.init&&(!aw f.init.n (-9223372036854775808)&&!f.init.I.any fun x=>aw (-9223372036854775808) x))))
structure SzF (f:Fe):Prop where
 iv:f.init.I.length<1501
 lv:f.init.L.length<1501
theorem Fv {n:Nat}(f:Fe):evFn lay0.tab (n+1507) 124 [.p f.e] []=some (.p (.bool (ej f)),[]):=by
 apply FL (n+1506) f.r;have h1:=aa (lR (n:=n) f.name);have h2:=aa (sK (n:=n+1505) f.kind);have h3:=aa (LI (n:=n+3) f.init);simp only[Va.c]at h3;by_cases hi:f.init.I.length<1501
 ·have h4:=aa (Wr (n:=n+2) f.init.I (-9223372036854775808) hi);simp only[j7,show f.r.Name=f.name from rfl,show f.r.Kind=f.kind from rfl,show f.r.Init_Kind=f.init.k from rfl,show f.r.Init_N=f.init.n from rfl,show f.r.Init_S=f.init.s from rfl,show f.r.Init_I=f.init.I.map iE from rfl,show f.r.Init_L=f.init.L.map .str from rfl,h1,h2,h3,h4,ba,aD,aC,bt,XZ,gm,aey,Bool.not_not,Bool.and_true,ej]
 ·have hv:tK f.init=false:=by
   cases h:tK f.init with
   |false=>rfl
   |true=>
    unfold tK wx fS at h;simp only[lδ,Bool.not_eq_true',qδ,mT,mβ]at h;omega
  simp only[j7,show f.r.Name=f.name from rfl,show f.r.Kind=f.kind from rfl,show f.r.Init_Kind=f.init.k from rfl,show f.r.Init_N=f.init.n from rfl,show f.r.Init_S=f.init.s from rfl,show f.r.Init_I=f.init.I.map iE from rfl,show f.r.Init_L=f.init.L.map .str from rfl,h1,h2,h3,hv,ba,aD,aC,bt,XZ,gm,aey,Bool.not_not,Bool.and_true,ej];first|done|(cases cH f.name<;>cases gj f.kind<;>cases aw f.init.k f.kind<;>rfl)
def pc (m:Me):Bool:=cH m.name&&(!aW 4 (m.params.length:Int)&&((!(!aw m.result 0)||gj m.result)&&m.params.all fun p=>cH p.name&&gj p.kind))
theorem CI {n:Nat}(m:Me):evFn lay0.tab (n+1507) 125 [.p m.e] []=some (.p (.bool (pc m)),[]):=by
 apply DA (n+1506) m.r;have h1:=aa (lR (n:=n) m.name);have h2:=aa (sK (n:=n+1505) m.result);by_cases hp:m.params.length<1501;case neg=>
  have h4:aW 4 (m.params.length:Int)=true:=cK (by omega);simp only[iI,show m.r.Name=m.name from rfl,show m.r.Params=m.params.map Pa.e from rfl,show m.r.Result=m.result from rfl,lβ,h4,h1,h2,ba,aD,aC,pc];cases cH m.name<;>rfl
 have hl:dt (bq lay0.tab (n+1506)) (n+1506) (fun u22=>some (.p (.bool false),[])) (fun(l23,i24,i25)=>some (.p (.bool true),[])) (n+1506) (m.params.map Pa.e,(m.params.length:Int),0)=some (.p (.bool (m.params.all fun p=>cH p.name&&gj p.kind)),[]):=by
  refine(aV m.params (fun q i=>dt _ (n+1506) _ _ q (m.params.map Pa.e,(m.params.length:Int),i)) (fun p=>!(cH p.name&&gj p.kind)) (fun i=>some (.p (.bool false),[])) (some (.p (.bool true),[])) (fun q i hi=>?_) (fun q=>?_) (by omega)).trans ?_
  ·rw[nO];simp only[ed,cK (show((i:Int)<(m.params.length:Int)) by omega),aO,aE,aP,aM hi,bf,dPa,show ∀p:Pa,p.r.Name=p.name from fun _=>rfl,show ∀p:Pa,p.r.Kind=p.kind from fun _=>rfl,wS (show i<bZ by unfold bZ;omega),aa (lR (n:=n) m.params[i].name),aa (sK (n:=n+1505) m.params[i].kind),ba,aD,aC];cases cH m.params[i].name<;>cases gj m.params[i].kind<;>rfl
  ·rw[nO];simp only[ed,cb,aQ]
  ·rw[f4];cases m.params.findIdx? fun p=>!(cH p.name&&gj p.kind)<;>rfl
 simp only[iI,show m.r.Name=m.name from rfl,show m.r.Params=m.params.map Pa.e from rfl,show m.r.Result=m.result from rfl,lβ,hl,h1,h2,ba,aD,aC,pc];cases cH m.name<;>cases aW 4 (m.params.length:Int)<;>cases aw m.result 0<;>cases gj m.result<;>rfl
structure ahQ (m:Me):Prop where
 ps:m.params.length<1501
 ns:m.nodes.length<1501
 nx:∀x∈m.nodes,SzN x
structure SzA (a:Ac):Prop where
 fl:a.fields.length<1501
 me:a.methods.length<1501
 ff:∀f∈a.fields,SzF f
 mm:∀m∈a.methods,ahQ m
theorem Wq {n:Nat}(fs:List Fe)(h:fs.length<1501):evFn lay0.tab (n+1510) 122 [.p (.slice 7 (fs.map Fe.e)),.p (.fn 123 [])] []=some (.p (.bool (fs.any fun f=>!ej f)),[]):=by
 have h1:∀f∈fs,evFn lay0.tab (n+1508) 123 [.p f.e] []=some (.p (.bool (!ej f)),[]):=by
  intro f hm;apply Uu (n+1507) f.r;have:=aa (Fv (n:=n) f);simp only[Fe.e]at this;simp only[yP,this,ba,aD,aC,bt,XZ]
 have hi:evFn lay0.tab (n+1509) 100 [.p (.slice 7 (fs.map Fe.e)),.p (.fn 123 [])] []=some (.p (.int .i64 (m8 (fs.findIdx? fun f=>!ej f))),[]):=by
  apply aaM (n+1508) (fs.map Fe.e);unfold Ik;rw[lβ];refine(aV fs (fun q i=>sR _ (n+1508) _ _ q (fs.map Fe.e,(fs.length:Int),i)) (fun f=>!ej f) (fun i=>some (.p (.int .i64 i),[])) (some (.p (.int .i64 (-1)),[])) (fun q i hi=>?_) (fun q=>?_) (by omega)).trans ?_
  ·rw[Ds];have:=aa (h1 fs[i] (lι _));simp only[Fe.e]at this;simp only[oT,cK (show((i:Int)<(fs.length:Int)) by omega),aO,aE,aP,aM hi,bf,dFe,wS (show i<bZ by unfold bZ;omega),this,ba,aD,bG];exact dq _ _ _
  ·rw[Ds];simp only[oT,cb,aQ]
  ·cases fs.findIdx? fun f=>!ej f<;>rfl
 apply WM (n+1509) (fs.map Fe.e);unfold CU;simp only[aa hi,ba,bF,aC];rw[←List.findIdx?_isSome];cases fs.findIdx? fun f=>!ej f with
 |none=>rfl
 |some j=>simp[m8,bJ,aO]
def sg:List Me→Int→Option Int
 |[],t=>some t
 |m::r,t=>bif aW 1500 (ag .i64 (t+(m.nodes.length:Int)))then none else bif pc m&&fR m.nodes then sg r (ag .i64 (t+(m.nodes.length:Int)))else none
def Qp (a:Ac):Bool:=cH a.name&&(!aW 8 (a.fields.length:Int)&&(!aW 16 (a.methods.length:Int)&&!a.fields.any fun f=>!ej f))
def yw:List Ac→Int→Option Int
 |[],t=>some t
 |a::r,t=>bif Qp a then(match sg a.methods t with|none=>none|some t=>yw r t)else none
def cw (p:List Ac):Bool:=!aW 8 (p.length:Int)&&(yw p 0).isSome
structure GQ (b:Nat)(a:Ac):Prop where
 fl:a.fields.length<b
 me:a.methods.length<b
 fv:∀f∈a.fields,f.init.I.length<b∧f.init.L.length<b
 mp:∀m∈a.methods,m.params.length<b∧m.nodes.length<b∧∀x∈m.nodes,x.kids.length<b∧x.v.I.length<b∧x.v.L.length<b
theorem qq:∀(l:List Me) (t t':Int),sg l t=some t'→(∀m∈l,m.nodes.length<1000000000000)→0≤t→t≤1500→0≤t'∧t'≤1500∧∀m∈l,m.nodes.length≤1500
 |[],t,t',h,_,h0,h1=>by
  simp only[sg,lα]at h;subst h;exact⟨h0,h1,fun m hm=>by cases hm⟩
 |m::r,t,t',h,hb,h0,h1=>by
  have hm:=hb m (lτ ..);simp only[sg]at h;have hw:ag .i64 (t+(m.nodes.length:Int))=t+(m.nodes.length:Int):=iD (by omega) (by omega);rw[hw]at h;by_cases hg:1500<t+(m.nodes.length:Int)
  ·rw[cK hg]at h;cases h
  ·rw[vp hg]at h;simp only[cond_false]at h;cases ha:pc m&&fR m.nodes with
   |false=>rw[ha]at h;cases h
   |true=>
    rw[ha]at h;obtain⟨g1,g2,g3⟩:=qq r _ t' h (fun x hx=>hb x (lχ _ hx)) (by omega) (by omega);refine⟨g1,g2,fun x hx=>?_⟩
    rcases mγ.1 hx with rfl|hx
    ·omega
    ·exact g3 x hx
theorem TG {n:Nat}(a b:Int)(l:LD)(ml:List Me)(hm:∀m∈ml,m.nodes.length<1000000000000∧∀x∈m.nodes,x.kids.length<1000000000000)(hl:ml.length<1501)(k0:ah→R)(k1:mb→R)(Z:R)(hk0:∀a,k0 a=Z):∀(e q j:Nat) (t:Int),j+e=ml.length→e<q→0≤t→t≤1500→
  L_sValid_2 (bq lay0.tab (n+1510)) (n+1510) k0 k1 q (t,l,a,b,ml.map Me.e,(ml.length:Int),(j:Int))=match sg (ml.drop j) t with|none=>Z|some t=>k1 (t,l,a,b,ml.map Me.e,(ml.length:Int),(ml.length:Int))
 |0,q+1,j,t,h,_,_,_=>by
  obtain rfl:j=ml.length:=by omega
  rw[Az];simp only[mq,cb,aQ,List.drop_length,sg]
 |e+1,q+1,j,t,h,hq,h0,h1=>by
  have hj:j<ml.length:=by omega
  obtain⟨hx1,hx2⟩:=hm ml[j] (lι _);have e1:=aa (CI (n:=n+3) ml[j]);simp only[Me.e]at e1;have hw:ag .i64 (t+(ml[j].nodes.length:Int))=t+(ml[j].nodes.length:Int):=iD (by omega) (by omega);rw[Az,lξ hj];simp only[mq,cK (show((j:Int)<(ml.length:Int)) by omega),aO,aE,aP,aM hj,bf,Yy,wS (show j<bZ by unfold bZ;omega),e1,show ml[j].r.Nodes=ml[j].nodes.map No.e from rfl,lβ,ba,aD,aC,hk0,sg,hw];by_cases hg:1500<t+(ml[j].nodes.length:Int)
  ·rw[cK hg];rfl
  ·rw[vp hg];have e2:=aa (H8 (n:=n+1) ml[j].nodes hx2 (by omega));simp only[e2,ba,aD,aC,aQ,cond_false];cases pc ml[j]
   ·rfl
   ·cases fR ml[j].nodes
    ·rfl
    ·exact TG a b l ml hm hl k0 k1 Z hk0 e q (j+1) _ (by omega) (by omega) (by omega) (by omega)
theorem TH {n b:Nat}(p:List Ac)(hp:∀a∈p,GQ b a)(hb:b≤1000000000000)(hl:p.length<1501)(k0:ae→R)(k1:ah→R)(k2:ma→R)(Z:R)(hk0:∀a,k0 a=Z)(hk1:∀a,k1 a=Z)(W:R)(hk2:∀a b c d,k2 (a,b,c,d)=W):∀(e q j:Nat) (t:Int),j+e=p.length→e<q→0≤t→t≤1500→
  L_sValid_1 (bq lay0.tab (n+1510)) (n+1510) k0 k1 k2 q (t,p.map Ac.e,(p.length:Int),(j:Int))=match yw (p.drop j) t with|none=>Z|some _=>W
 |0,q+1,j,t,h,_,_,_=>by
  obtain rfl:j=p.length:=by omega
  rw[Ay];simp only[mo,cb,aQ,List.drop_length,yw,hk2]
 |e+1,q+1,j,t,h,hq,h0,h1=>by
  have hj:j<p.length:=by omega
  have hx:=hp p[j] (lι _);have e1:=aa (lR (n:=n+4) p[j].name);rw[Ay,lξ hj];simp only[mo,cK (show((j:Int)<(p.length:Int)) by omega),aO,aE,aP,aM hj,bf,QE,show p[j].r.Name=p[j].name from rfl,show p[j].r.Fields=p[j].fields.map Fe.e from rfl,show p[j].r.Methods=p[j].methods.map Me.e from rfl,lβ,wS (show j<bZ by unfold bZ;omega),e1,ba,aD,aC,bG,hk0,yw,Qp];cases cH p[j].name
  ·rfl
  by_cases hf:8<(p[j].fields.length:Int)
  ·rw[cK hf];rfl
  by_cases hm:16<(p[j].methods.length:Int)
  ·rw[vp hf,cK hm];rfl
  rw[vp hf,vp hm];have hmb:∀m∈p[j].methods,m.nodes.length<1000000000000∧∀x∈m.nodes,x.kids.length<1000000000000:=fun m hm=>⟨by have:=(hx.mp m hm).2.1;omega,fun x h=>by have:=((hx.mp m hm).2.2 x h).1;omega⟩
  have e2:=aa (Wq (n:=n) p[j].fields (by omega));have hmet:=fun kk=>TG (n:=n) (p.length:Int) (j:Int) (p.map Ac.e) p[j].methods hmb (by omega) (fun u32=>k1 u32) kk Z hk1 p[j].methods.length (n+1510) 0 t (by omega) (by omega) h0 h1
  simp only[show((0:Nat):Int)=0 from rfl,List.drop_zero]at hmet;simp only[e2,hmet,ba,aD,aC,bG,wS (show j<bZ by unfold bZ;omega),aO,aQ,Bool.not_false,Bool.true_and];cases p[j].fields.any fun f=>!ej f
  ·simp only[aO,aQ,Bool.not_false,Bool.true_and,cond_true];cases hs:sg p[j].methods t with
   |none=>rfl
   |some t'=>
    obtain⟨g1,g2,_⟩:=qq _ _ _ hs (fun m hm=>(hmb m hm).1) h0 h1;exact TH p hp hb hl k0 k1 k2 Z hk0 hk1 W hk2 e q (j+1) _ (by omega) (by omega) g1 g2
  ·rfl
theorem LF {n b:Nat}(p:List Ac)(hp:∀a∈p,GQ b a)(hb:b≤1000000000000):evFn lay0.tab (n+1511) 84 [.p (.agg [.slice 3 (p.map Ac.e)])] []=some (.p (.bool (cw p)),[]):=by
 apply WS (n+1510) ⟨p.map Ac.e⟩;unfold C0 cw;simp only[lβ];by_cases hl:8<(p.length:Int)
 ·rw[cK hl];rfl
 ·rw[vp hl];refine(TH (n:=n) p hp hb (by omega) _ _ _ (some (.p (.bool false),[])) (fun _=>rfl) (fun _=>rfl) (some (.p (.bool true),[])) (fun _ _ _ _=>rfl) p.length (n+1510) 0 0 (by omega) (by omega) (by omega) (by omega)).trans ?_;rw[List.drop_zero];cases yw p 0<;>rfl
theorem SzA.b {a:Ac}(h:SzA a):GQ 1501 a:=⟨h.fl,h.me,fun f hf=>⟨(h.ff f hf).iv,(h.ff f hf).lv⟩,fun m hm=>⟨(h.mm m hm).ps,(h.mm m hm).ns,fun x hx=>⟨((h.mm m hm).nx x hx).ks,((h.mm m hm).nx x hx).iv,((h.mm m hm).nx x hx).lv⟩⟩⟩
theorem R9 {ns:List No}(h:fR ns=true):Cy ns:=by
 unfold fR at h;simp only[lδ,mη]at h;obtain⟨hp,_,hall,_⟩:=h;have hkk:=tu (b:=ns.length) ns 0 [] (by omega) (fun k hk=>by cases hk) hp;have hc:∀x∈ns,ci ns x=true:=fun x hx=>(hall x hx).1
 refine⟨tv ns 0 [] rfl (Nat.zero_le _) .nil hp,fun x hx=>⟨fun ho=>?_,fun ho=>?_⟩,fun x hx ho k hk y hy=>?_⟩
 ·have:=hc x hx;rcases ho with h|h|h|h|h|h|h<;>(unfold ci at this;rw[h]at this;simp only[aT,ef,Np,bJ,lδ,lη,Int.reduceEq,decide_false,decide_true,cond_true,cond_false]at this;omega)
 ·have:=hc x hx;unfold ci at this;rw[ho]at this;simp only[aT,ef,Np,bJ,lδ,lη,Int.reduceEq,decide_false,decide_true,cond_true,cond_false]at this;omega
 ·have:=hc x hx;have ha:dE ns x 0 se=true:=by
   rcases ho with h|h<;>(unfold ci at this;rw[h]at this;simp only[aT,lδ,Int.reduceEq,decide_false,decide_true,cond_true,cond_false]at this;exact this.2)
  unfold dE at ha;rw[List.drop_zero,mη]at ha;have:=ha k hk;unfold cE at this;rw[hy]at this;simp only[Option.map_some,Option.getD_some,se,dU,zh,bJ,aT,mψ,lδ,lη]at this;omega
theorem Ra:∀(ml:List Me) (t t':Int),sg ml t=some t'→∀m∈ml,fR m.nodes=true∧pc m=true
 |[],_,_,_,m,hm=>by cases hm
 |x::r,t,t',h,m,hm=>by
  simp only[sg]at h;cases h1:aW 1500 (ag .i64 (t+(x.nodes.length:Int)))with
  |true=>rw[h1]at h;simp at h
  |false=>
   cases h2:pc x&&fR x.nodes with
   |false=>rw[h1,h2]at h;simp at h
   |true=>
    rw[h1,h2]at h;simp only[cond_true,cond_false]at h;rcases mγ.1 hm with rfl|hm
    ·rw[lδ]at h2;exact⟨h2.2,h2.1⟩
    ·exact Ra r _ _ h m hm
theorem RM:∀(p:List Ac) (t t':Int),yw p t=some t'→∀a∈p,Qp a=true∧∀m∈a.methods,fR m.nodes=true∧pc m=true
 |[],_,_,_,a,ha=>by cases ha
 |x::r,t,t',h,a,ha=>by
  simp only[yw]at h;cases h1:Qp x with
  |false=>rw[h1]at h;simp at h
  |true=>
   rw[h1]at h;simp only[cond_true]at h;cases h2:sg x.methods t with
   |none=>rw[h2]at h;cases h
   |some t1=>
    rw[h2]at h;rcases mγ.1 ha with rfl|ha
    ·exact⟨h1,Ra _ _ _ h2⟩
    ·exact RM r _ _ h a ha
theorem Pm {p:List Ac}(h:cw p=true):p.length≤8∧∀a∈p,∀m∈a.methods,Cy m.nodes∧m.params.length≤4:=by
 unfold cw at h;simp only[lδ,Bool.not_eq_true',mT,mβ]at h;obtain⟨h1,h2⟩:=h;refine⟨by omega,fun a ha m hm=>?_⟩
 obtain⟨t,ht⟩:=Option.isSome_iff_exists.1 h2;obtain⟨g1,g2⟩:=(RM p 0 t ht a ha).2 m hm;refine⟨R9 g1,?_⟩;unfold pc at g2;simp only[lδ,Bool.not_eq_true',mT,mβ]at g2;omega
theorem Ll {v:Va}(h:tK v=true):v.I.length<1501∧v.L.length<1501:=by
 unfold tK wx fS at h;simp only[lδ,Bool.not_eq_true',qδ,mT,mβ]at h;omega
theorem La {v w:Va}(hi:w.I=[])(hl:w.L=[])(h:fU v w=true):v.I.length<1501∧v.L.length<1501:=by
 unfold fU at h;simp only[lδ,lη]at h;rw[h.2.2.2.1,h.2.2.2.2,hi,hl];simp
theorem Yu {x:No}(h:dw x=true):x.v.I.length<1501∧x.v.L.length<1501:=by
 cases h1:tK x.v with
 |true=>exact Ll h1
 |false=>
 cases h2:fU x.v v0 with
 |true=>exact La rfl rfl h2
 |false=>
 cases h3:fU x.v ⟨0,0,x.v.s,[],[]⟩with
 |true=>exact La rfl rfl h3
 |false=>
 cases h4:fU x.v ⟨x.v.k,0,[],[],[]⟩with
 |true=>exact La rfl rfl h4
 |false=>
  unfold dw Si gi at h;simp only[h1,h2,h3,h4,cond_false,Bool.cond_self,Bool.false_eq_true]at h
theorem abb {ns:List No}(hl:ns.length≤1500)(h:fR ns=true):∀x∈ns,SzN x:=by
 unfold fR at h;simp only[lδ,mη]at h;obtain⟨hp,_,hall,_⟩:=h;intro x hx;have h1:=Yu (hall x hx).2;have h2:=xF ns 0 [] (by simp) hp x hx;exact⟨h1.1,h1.2,by omega⟩
theorem TB {b:Nat}(hb:b≤1000000000000):∀(p:List Ac) (t t':Int),yw p t=some t'→(∀a∈p,GQ b a)→0≤t→t≤1500→∀a∈p,SzA a
 |[],_,_,_,_,_,_,a,ha=>by cases ha
 |x::r,t,t',h,hz,h0,h1,a,ha=>by
  simp only[yw]at h;cases hx:Qp x with
  |false=>rw[hx]at h;cases h
  |true=>
   rw[hx]at h;simp only[cond_true]at h;cases hs:sg x.methods t with
   |none=>rw[hs]at h;cases h
   |some t1=>
    rw[hs]at h;have zx:=hz x (lτ ..);obtain⟨g1,g2,g3⟩:=qq _ _ _ hs (fun m hm=>by have:=(zx.mp m hm).2.1;omega) h0 h1;rcases mγ.1 ha with rfl|ha
    ·have hm:=Ra _ _ _ hs;unfold Qp at hx;simp only[lδ,Bool.not_eq_true',mT,mβ,qθ]at hx;obtain⟨_,q1,q2,q3⟩:=hx;refine⟨by omega,by omega,fun f hf=>?_,fun m hm'=>?_⟩
     ·have hv:ej f=true:=by simpa using q3 f hf
      unfold ej at hv;simp only[lδ]at hv;exact⟨(Ll hv.2.2.2.1).1,(Ll hv.2.2.2.1).2⟩
     ·obtain⟨w1,w2⟩:=hm m hm';unfold pc at w2;simp only[lδ,Bool.not_eq_true',mT,mβ]at w2;exact⟨by omega,by have:=g3 m hm';omega,abb (g3 m hm') w1⟩
    ·exact TB hb r _ _ h (fun y hy=>hz y (lχ _ hy)) g1 g2 a ha
theorem HV {b:Nat}{p:List Ac}(h:cw p=true)(hz:∀a∈p,GQ b a)(hb:b≤1000000000000):p.length<1501∧∀a∈p,SzA a:=by
 unfold cw at h;simp only[lδ,Bool.not_eq_true',mT,mβ]at h;obtain⟨t,ht⟩:=Option.isSome_iff_exists.1 h.2;exact⟨by omega,TB hb p 0 t ht hz (by omega) (by omega)⟩
end
end Go.Ab
end
section
namespace Go.Ab
open Go
set_option maxRecDepth 100000
noncomputable section
theorem wBr {i:Nat}(h:i<9223372036854775807):ag .i64 ((i:Int)+1)=((i+1:Nat):Int):=by
 rw[iD (by omega) (by omega)];omega
theorem CB {n:Nat}(c:Int):evFn lay0.tab (n+1) 145 [.p (.int .u8 c)] []=some (.p (.bool (MW c)),[]):=by
 apply P9 n c;simp only[uE,bt,dH,gm,Bool.and_true,MW]
theorem Lz {n:Nat}(c:Int):evFn lay0.tab (n+1) 142 [.p (.int .u8 c)] []=some (.p (.bool (zO c)),[]):=by
 apply Md n c;unfold q0 ox zO;cases bu 97 c<;>cases bu c 122<;>cases bu 65 c<;>cases bu c 90<;>cases aw c 95<;>rfl
theorem TO {n:Nat}(c:Int):evFn lay0.tab (n+2) 143 [.p (.int .u8 c)] []=some (.p (.bool (Po c)),[]):=by
 apply Ug (n+1) c;simp only[yE,aa (Lz (n:=n) c),aa (CB (n:=n) c),ba,aD,aC,bt,dH,UT,Bool.or_false,Po]
theorem CA {n:Nat}(s:List Nat):evFn lay0.tab (n+1) 144 [.p (.str s)] []=some (.p (.bool (Vw s)),[]):=by
 apply Dv n s;simp only[lV,bt,dH,UT,Vw,List.any_cons,List.any_nil,Bool.or_false]
def Tw (s:List Nat):Bool:=match s with
 |[]=>false
 |c::_=>bu s.length 32&&(!MW (c:Int)&&!Vw s)
def ZO (s:List Nat):Bool:=(s.findIdx? S6).isNone&&Tw s
theorem acs {c:Int}(h:zO c=true):MW c=false:=by
 unfold zO at h;unfold MW;simp only[bJ,aT,mψ,lδ,lη]at h;simp only[bJ,Bool.and_eq_false_iff,mβ];omega
theorem acC (s:List Nat):ZO s=cH s:=by
 cases s with
 |nil=>rfl
 |cons c r=>
  unfold ZO Tw cH TI acT;simp only[List.headD_cons,show aK (c::r) []=false from rfl,Bool.not_false,Bool.true_and];have key:aw (((bif zO (c:Int)then((c::r).findIdx? S6).getD (c::r).length else 0:Nat)):Int) ((c::r).length:Int)=(zO (c:Int)&&((c::r).findIdx? S6).isNone):=by
   rw[aT];cases zO (c:Int)with
   |false=>simp;omega
   |true=>
    cases hf:(c::r).findIdx? S6 with
    |none=>simp
    |some j=>
     have:=(lυ.1 hf).1;simp at this ⊢
     omega
  rw[key];cases hf:(c::r).findIdx? S6 with
  |some j=>simp
  |none=>
   have h0:S6 c=false:=mτ.1 hf c (lτ ..);unfold S6 Po at h0;cases hl:zO (c:Int)with
   |true=>simp[acs hl]
   |false=>
    rw[hl]at h0;simp only[Bool.false_or,Bool.not_eq_false']at h0;simp[h0]
theorem il {n:Nat}(s:List Nat)(h:s.length<n)(hb:s.length<9223372036854775808):evFn lay0.tab (n+3) 156 [.p (.str s)] []=some (.p (.bool (cH s)),[]):=by
 apply Mc (n+2) s;rw[←acC];unfold qZ;refine(aV s (fun q i=>j8 _ (n+2) _ _ q (s,i)) S6 (fun _=>some (.p (.bool false),[])) (some (.p (.bool (Tw s)),[])) (fun q i hi=>?_) (fun q=>?_) (by omega)).trans ?_
 ·rw[rt];simp only[gI,cK (show((i:Int)<(s.length:Int)) by omega),aO,bJ,show(0:Int)≤(i:Int) by omega,decide_true,cond_true,Int.toNat_natCast,lγ hi,bf,wBr (show i<9223372036854775807 by omega),show ∀k:Nat,Int.ofNat k=(k:Int)from fun _=>rfl,aa (TO (n:=n) _),ba,aD,aC];unfold S6;cases Po (s[i]:Int)<;>rfl
 ·rw[rt];simp only[gI,cb,aQ];cases s with
  |nil=>rfl
  |cons c r=>
   have h1:bu 1 ((c::r).length:Int)=true:=by rw[bJ];simp;omega
   simp only[h1,aO,show bu 0 0=true from rfl,cond_true,Int.toNat_zero,List.getElem?_cons_zero,bf,show ∀k:Nat,Int.ofNat k=(k:Int)from fun _=>rfl,aa (CB (n:=n+1) _),aa (CA (n:=n+1) _),ba,aD,aC,bt,XZ,aey,gm,Bool.and_true,Tw]
 ·unfold ZO;cases s.findIdx? S6<;>rfl
theorem vK {n:Nat}(xs ys:List Int)(h:xs.length<n)(hb:xs.length<9223372036854775808):evFn lay0.tab (n+1) 50 [.p (.slice 1 (xs.map iE)),.p (.slice 1 (ys.map iE))] []=some (.p (.bool (decide (xs=ys))),[]):=by
 apply IN n (xs.map iE) (ys.map iE);simp only[pM,lβ,aT,cr];by_cases hl:xs.length=ys.length
 ·rw[if_pos (by omega)];refine(aV (xs.zip ys) (fun q i=>iZ _ n _ _ q (xs.map iE,ys.map iE,i)) (fun t=>!aw t.1 t.2) (fun i=>some (.p (.bool false),[])) (some (.p (.bool true),[])) (fun q i hi=>?_) (fun q=>?_) (by simp[mμ];omega)).trans ?_
  ·simp only[mμ]at hi;rw[qG];simp only[fK,lβ,cK (show((i:Int)<(xs.length:Int)) by omega),aO,aE,aP,aM (show i<xs.length by omega),aM (show i<ys.length by omega),bf,dI,wBr (show i<9223372036854775807 by omega),List.getElem_zip];exact dq _ _ _
  ·rw[qG];simp only[fK,lβ,mμ,hl,Nat.min_self,cb,aQ]
  ·have key:=pC aw hl aT;cases hf:(xs.zip ys).findIdx? (fun t=>!aw t.1 t.2)with
   |none=>simp[key.1 hf]
   |some j=>
    have:¬xs=ys:=fun e=>by rw[key.2 e]at hf;cases hf
    simp[this]
 ·rw[if_neg (by omega)];have:¬xs=ys:=fun e=>hl (by rw[e])
  simp[this]
theorem Bd {n:Nat}(xs ys:List (List Nat))(h:xs.length<n)(hb:xs.length<9223372036854775808):evFn lay0.tab (n+1) 80 [.p (.slice 1 (xs.map .str)),.p (.slice 1 (ys.map .str))] []=some (.p (.bool (decide (xs=ys))),[]):=by
 apply Bm n (xs.map .str) (ys.map .str);simp only[la,lβ,aT,cr];by_cases hl:xs.length=ys.length
 ·rw[if_pos (by omega)];refine(aV (xs.zip ys) (fun q i=>fp _ n _ _ q (xs.map .str,ys.map .str,i)) (fun t=>!aK t.1 t.2) (fun i=>some (.p (.bool false),[])) (some (.p (.bool true),[])) (fun q i hi=>?_) (fun q=>?_) (by simp[mμ];omega)).trans ?_
  ·simp only[mμ]at hi;rw[md];simp only[dM,lβ,cK (show((i:Int)<(xs.length:Int)) by omega),aO,aE,aP,aM (show i<xs.length by omega),aM (show i<ys.length by omega),bf,zl,wBr (show i<9223372036854775807 by omega),List.getElem_zip];exact dq _ _ _
  ·rw[md];simp only[dM,lβ,mμ,hl,Nat.min_self,cb,aQ]
  ·have key:=pC aK hl dn;cases hf:(xs.zip ys).findIdx? (fun t=>!aK t.1 t.2)with
   |none=>simp[key.1 hf]
   |some j=>
    have:¬xs=ys:=fun e=>by rw[key.2 e]at hf;cases hf
    simp[this]
 ·rw[if_neg (by omega)];have:¬xs=ys:=fun e=>hl (by rw[e])
  simp[this]
theorem gx {n:Nat}(a b:Va)(hi:a.I.length<n)(hl:a.L.length<n)(bi:a.I.length<9223372036854775808)(bl:a.L.length<9223372036854775808):evFn lay0.tab (n+2) 45 [.p (.agg a.c),.p (.agg b.c)] []=some (.p (.bool (fU a b)),[]):=by
 apply FJ (n+1) a.r b.r;unfold ot;have h1:=aa (vK (n:=n) a.I b.I hi bi);have h2:=aa (Bd (n:=n) a.L b.L hl bl);simp only[Va.r,h1,h2,ba,aD,aC,bt,dH,gm,fU,Bool.and_true]
def bR1 (v:Va):Bool:=(!aw v.k 1&&(!aw v.k 2&&!aw v.n 0))||((!aw v.k 3&&!aK v.s [])||((!aw v.k 4&&aW 0 (fS v.I))||(!aw v.k 5&&aW 0 (fS v.L))))
def bR2 (v:Va):Bool:=aW v.k 0||(aW 5 v.k||((aw v.k 2&&(!aw v.n 0&&!aw v.n 1))||(aW 64 (fS v.s)||(aW 16 (fS v.I)||aW 16 (fS v.L)))))
theorem agz (v:Va):(!bR1 v&&(!bR2 v&&v.L.all fun t=>!aW 64 (fS t)))=tK v:=by
 unfold tK bR1 bR2 GW GX R6 wx;have h12:aw v.k 1=true→aw v.k 2=false:=by simp only[aT,lη,mβ];omega
 have hn:aw v.n 0=true→aw v.n 1=false:=by simp only[aT,lη,mβ];omega
 revert h12 hn
 generalize(v.L.all fun t=>!aW 64 (fS t))=w;cases aw v.k 1<;>cases aw v.k 2<;>cases aw v.n 0<;>cases aw v.n 1<;>simp<;>
 cases aw v.k 3<;>cases aw v.k 4<;>cases aw v.k 5<;>cases aK v.s []<;>cases aW 0 (fS v.I)<;>cases aW 0 (fS v.L)<;>simp<;>cases aW v.k 0<;>cases aW 5 v.k<;>simp
section
variable (cc:ab) (n:Nat) (k0:Bool×aG→R) (v:Va)
theorem rv1:f1 cc n k0 v.r=k0 (bR1 v,v.r):=by
 unfold f1 f0 jR bR1 fS;simp only[Va.r,lβ];cases aw v.k 1<;>cases aw v.k 2<;>cases aw v.n 0<;>cases aw v.k 3<;>cases aK v.s []<;>cases aw v.k 4<;>cases aW 0 (v.I.length:Int)<;>cases aw v.k 5<;>cases aW 0 (v.L.length:Int)<;>rfl
theorem rv2:f2 cc n k0 v.r=k0 (bR2 v,v.r):=by
 unfold f2 fZ bR2 fS;simp only[Va.r,lβ];cases aW v.k 0<;>cases aW 5 v.k<;>cases aw v.k 2<;>cases aw v.n 0<;>cases aw v.n 1<;>cases aW 64 (v.s.length:Int)<;>cases aW 16 (v.I.length:Int)<;>cases aW 16 (v.L.length:Int)<;>rfl
end
theorem qY {n:Nat}(v:Va)(h:v.L.length<n)(hb:v.L.length<9223372036854775808):evFn lay0.tab (n+1) 199 [.p (.agg v.c)] []=some (.p (.bool (tK v)),[]):=by
 apply Dz n v.r;rw[←agz];unfold lY;simp only[rv1,rv2];have hl:ea (bq lay0.tab n) n (fun u11=>some (.p (.bool false),[])) (fun(i12,u13)=>some (.p (.bool true),[])) n (0,v.r)=some (.p (.bool (v.L.all fun t=>!aW 64 (fS t))),[]):=by
  refine(aV v.L (fun q i=>ea _ n _ _ q (i,v.r)) (fun t=>aW 64 (fS t)) (fun i=>some (.p (.bool false),[])) (some (.p (.bool true),[])) (fun q i hi=>?_) (fun q=>?_) (by omega)).trans ?_
  ·rw[nN];simp only[ec,Va.r,lβ,cK (show((i:Int)<(v.L.length:Int)) by omega),aO,aE,aP,aM hi,bf,zl,wBr (show i<9223372036854775807 by omega)];exact dq _ _ _
  ·rw[nN];simp only[ec,Va.r,lβ,cb,aQ]
  ·rw[rG];cases v.L.findIdx? fun t=>aW 64 (fS t)<;>rfl
 rw[hl];cases bR1 v<;>cases bR2 v<;>rfl
theorem H0 {n:Nat}(f:Fe)(hs:f.name.length<n)(hi:f.init.I.length<n)(hl:f.init.L.length<n)(bs:f.name.length<9223372036854775808)(bi:f.init.I.length<9223372036854775808)(bl:f.init.L.length<9223372036854775808):evFn lay0.tab (n+4) 157 [.p f.e] []=some (.p (.bool (ej f)),[]):=by
 apply IJ (n+3) f.r;unfold pJ ej gj;have h1:=aa (il (n:=n) f.name hs bs);have h2:=aa (qY (n:=n+2) f.init (by omega) bl);simp only[Va.c]at h2;have h3:fB (bq lay0.tab (n+3)) (n+3) (fun u13=>some (.p (.bool false),[])) (fun(i14,u15)=>some (.p (.bool true),[])) (n+3) (0,f.r)=some (.p (.bool (!f.init.I.any fun x=>aw (-9223372036854775808) x)),[]):=by
  refine(aV f.init.I (fun q i=>fB _ (n+3) _ _ q (i,f.r)) (fun x=>aw x (-9223372036854775808)) (fun i=>some (.p (.bool false),[])) (some (.p (.bool true),[])) (fun q i hi=>?_) (fun q=>?_) (by omega)).trans ?_
  ·rw[qB];simp only[fE,show ∀f:Fe,f.r.Init_I=f.init.I.map iE from fun _=>rfl,lβ,cK (show((i:Int)<(f.init.I.length:Int)) by omega),aO,aE,aP,aM hi,bf,dI,wBr (show i<9223372036854775807 by omega)];exact dq _ _ _
  ·rw[qB];simp only[fE,show ∀f:Fe,f.r.Init_I=f.init.I.map iE from fun _=>rfl,lβ,cb,aQ]
  ·rw[show(f.init.I.any fun x=>aw (-9223372036854775808) x)=f.init.I.any fun x=>aw x (-9223372036854775808) by congr 1;funext x;rw[aT,aT];exact decide_eq_decide.2 ⟨Eq.symm,Eq.symm⟩,←List.findIdx?_isSome];cases f.init.I.findIdx? fun x=>aw x (-9223372036854775808)<;>rfl
 have hk1:bu 1 f.kind=!aW f.kind 1:=rfl;have hk5:bu f.kind 5=!aW 5 f.kind:=rfl;simp only[show f.r.Name=f.name from rfl,show f.r.Kind=f.kind from rfl,show f.r.Init_Kind=f.init.k from rfl,show f.r.Init_N=f.init.n from rfl,show f.r.Init_S=f.init.s from rfl,show f.r.Init_I=f.init.I.map iE from rfl,show f.r.Init_L=f.init.L.map .str from rfl,h1,h2,h3,ba,aD,aC,hk1,hk5];cases cH f.name<;>cases aW f.kind 1<;>cases aW 5 f.kind<;>cases aw f.init.k f.kind<;>cases tK f.init<;>cases aw f.init.n (-9223372036854775808)<;>rfl
end
end Go.Ab
end
section
namespace Go.Ab
open Go
set_option maxRecDepth 100000
noncomputable section
theorem qA {n:Nat}(k:Int):evFn lay0.tab (n+1) 248 [.p (.int .i64 k)] []=some (.p (.bool (dU k)),[]):=by
 apply Bk n k;simp only[k8,bt,dH,gm,dU,Bool.and_true]
theorem CE {n:Nat}(k:Int):evFn lay0.tab (n+1) 249 [.p (.int .i64 k)] []=some (.p (.bool (BZ k)),[]):=by
 apply Dx n k;simp only[lX,bt,dH,gm,BZ,Bool.and_true]
theorem PD {n:Nat}(k:Int):evFn lay0.tab (n+1) 247 [.p (.int .i64 k)] []=some (.p (.bool (se k)),[]):=by
 apply Qc n k;have:se k=(bu 1 k&&bu k 7):=by
  unfold se dU zh;rw[mδ];simp only[bJ,aT,mψ,lδ,lη];omega
 simp only[uH,bt,dH,gm,Bool.and_true,this]
def acu (s:List Nat):Int:=bif aK s [124,124]then 1 else bif aK s [38,38]then 2 else bif aK s [61,61]then 3 else bif aK s [33,61]then 3 else bif aK s [60]then 3 else bif aK s [60,61]then 3 else bif aK s [62]then 3 else bif aK s [62,61]then 3 else bif aK s [43]then 4 else bif aK s [45]then 4 else bif aK s [42]then 5 else bif aK s [47]then 5 else bif aK s [37]then 5 else 0
theorem Js (a:Bool)(x y:Int):iL a (some ((.p (.int .i64 x)),[])) (some ((.p (.int .i64 y)),[]))=some ((.p (.int .i64 (bif a then x else y))),[]):=by cases a<;>rfl
theorem PC {n:Nat}(s:List Nat):evFn lay0.tab (n+1) 246 [.p (.str s)] []=some (.p (.int .i64 (acu s)),[]):=by
 apply Qb n s;simp only[uG,Js,acu]
theorem acv (s:List Nat):aW 0 (acu s)=binO.any fun t=>aK s t:=by
 have h:∀(b:Bool) (x y:Int),aW 0 (bif b then x else y)=bif b then aW 0 x else aW 0 y:=by intro b x y;cases b<;>rfl
 simp only[acu,h,binO,List.any_cons,List.any_nil,show aW 0 1=true from rfl,show aW 0 2=true from rfl,show aW 0 3=true from rfl,show aW 0 4=true from rfl,show aW 0 5=true from rfl,show aW 0 0=false from rfl,UT,Bool.or_false]
theorem yB {n:Nat}(ns:List No)(ks:List Int)(hk:∀k∈ks,∃y,jI ns k=some y)(h:ks.length<n)(hb:ks.length<9223372036854775808):evFn lay0.tab (n+2) 245 [.p (.slice 8 (ns.map No.e)),.p (.slice 1 (ks.map iE))] []=some (.p (.bool (ks.all fun k=>dU (cE ns k))),[]):=by
 apply zb (n+1) (ns.map No.e) (ks.map iE);unfold jK;refine(aV ks (fun q i=>eD _ (n+1) _ _ q (ns.map No.e,ks.map iE,i)) (fun k=>!dU (cE ns k)) (fun i=>some (.p (.bool false),[])) (some (.p (.bool true),[])) (fun q i hi=>?_) (fun q=>?_) (by omega)).trans ?_
 ·rw[lq];obtain⟨y,hy⟩:=hk ks[i] (lι _);simp only[du,lβ,cK (show((i:Int)<(ks.length:Int)) by omega),aO,aE,aP,aM hi,bf,dI,hy,u0,tj,wBr (show i<9223372036854775807 by omega),aa (qA (n:=n) y.op),ba,aD,aC,cE,Option.map_some,Option.getD_some];cases dU y.op<;>rfl
 ·rw[lq];simp only[du,lβ,cb,aQ]
 ·rw[f4];cases ks.findIdx? fun k=>!dU (cE ns k)<;>rfl
theorem gp (x:No)(a:Int):ef x a a=aw (x.kids.length:Int) a:=by
 unfold ef;rw[mδ];simp only[bJ,aT,lδ,lη];omega
theorem HQ (v:Va):fU v v=true:=by
 unfold fU;simp[aT,dn]
theorem HK {m:Nat}(ns:List No)(x:No)(s t:List Nat)(hk:∀k∈x.kids,∃y,jI ns k=some y)(hb:x.kids.length<9223372036854775808)(k0:LD×Int×LN×Bool×Int×aF×LN→R):∀(e q j:Nat) (b:Bool),j+e=x.kids.length→e<q→
  L_r18form_1 (bq lay0.tab (m+1)) (m+1) k0 q (ns.map No.e,(x.kids.length:Int),s,b,(j:Int),x.r,t)=k0 (ns.map No.e,(x.kids.length:Int),s,b&&(x.kids.drop j).all (fun k=>BZ (cE ns k)),(x.kids.length:Int),x.r,t)
 |0,q+1,j,b,h,_=>by
  obtain rfl:j=x.kids.length:=by omega
  rw[vV];simp only[kF,cb,aQ,List.drop_length,List.all_nil,Bool.and_true]
 |e+1,q+1,j,b,h,hq=>by
  have hj:j<x.kids.length:=by omega
  obtain⟨y,hy⟩:=hk x.kids[j] (lι _);rw[vV,lξ hj];simp only[kF,pF,cK (show((j:Int)<(x.kids.length:Int)) by omega),aO,aE,aP,aM hj,bf,dI,hy,u0,tj,wBr (show j<9223372036854775807 by omega),aa (CE (n:=m) y.op),ba,aD,aC,List.all_cons,cE,Option.map_some,Option.getD_some];have ih:=fun b=>HK (m:=m) ns x s t hk hb k0 e q (j+1) b (by omega) (by omega)
  cases b
  ·simp only[aQ,ih,Bool.false_and]
  ·cases BZ y.op
   ·simp only[aO,aQ,ih,Bool.false_and,Bool.and_false]
   ·simp only[aO,ih,Bool.true_and];rfl
theorem TQ {n:Nat}(ns:List No)(x:No)(hk:∀k∈x.kids,∃y,jI ns k=some y)(h1:x.kids.length<n)(h2:x.name.length<n)(h3:x.v.s.length<n)(h4:x.v.I.length<n)(h5:x.v.L.length<n)(b1:x.kids.length<9223372036854775808)(b2:x.name.length<9223372036854775808)(b3:x.v.s.length<9223372036854775808)(b4:x.v.I.length<9223372036854775808)(b5:x.v.L.length<9223372036854775808):
  evFn lay0.tab (n+5) 201 [.p (.slice 8 (ns.map No.e)),.p x.e] []=some (.p (.bool (ci ns x&&dw x)),[]):=by
 apply Ui (n+4) (ns.map No.e) x.r;have e1:=aa (gx (n:=n+2) x.v x.v (by omega) (by omega) b4 b5);have e2:=aa (gx (n:=n+2) x.v v0 (by omega) (by omega) b4 b5);have e3:=aa (gx (n:=n+2) x.v ⟨0,0,x.v.s,[],[]⟩ (by omega) (by omega) b4 b5);have e4:=aa (gx (n:=n+2) x.v ⟨x.v.k,0,[],[],[]⟩ (by omega) (by omega) b4 b5);have e5:=aa (il (n:=n+1) x.name (by omega) b2);have e6:=aa (il (n:=n+1) x.v.s (by omega) b3);have e7:=aa (qY (n:=n+3) x.v (by omega) b5);have e8:=aa (yB (n:=n+2) ns x.kids hk (by omega) b1);have e9:=aa (PC (n:=n+3) x.name);have ex:∀(o:Int) (K:KV),bq lay0.tab (n+4) 248 [.p (.int .i64 o)] [] K=K (.p (.bool (dU o))) []:=fun o=>aa (qA (n:=n+3) o)
 have ev:∀(o:Int) (K:KV),bq lay0.tab (n+4) 247 [.p (.int .i64 o)] [] K=K (.p (.bool (se o))) []:=fun o=>aa (PD (n:=n+3) o)
 simp only[Va.c,v0,List.map_nil]at e1 e2 e3 e4 e7;rw[HQ]at e1;have ss:aK x.name x.name=true:=by rw[dn];simp
 have eE:(x.kids.all fun k=>dU (cE ns k))=dE ns x 0 dU:=rfl;have q1:io (bq lay0.tab (n+4)) x.r=some (.p (.bool (fU x.v v0)),[]):=by
  unfold io cU;simp only[Hw,Lt,J6,Lu,Lv,e2,ba,aD,aC,bt,dH,v0]
 have q2:fD x.r (bq lay0.tab (n+4))=some (.p (.bool (aK x.name [])),[]):=by
  unfold fD cU;simp only[Fq,Hw,Lt,J6,Lu,Lv,e1,ba,aD,aC,aO,bt,dH]
 have q4:eu (bq lay0.tab (n+4)) (ns.map No.e) x.r=some (.p (.bool (dE ns x 0 dU&&fU x.v v0)),[]):=by
  unfold eu lE;simp only[Fq,pF,e8,eE,q1,ss,aO,ba,aD,aC,bt,dH,gm,Bool.true_and]
 have q11:jc x.r (bq lay0.tab (n+4))=some (.p (.bool (aK x.name []&&fU x.v v0)),[]):=by
  unfold jc;simp only[Fq,q1,bt,gm]
 have q6:iq (bq lay0.tab (n+4)) (ns.map No.e) x.r=some (.p (.bool (dE ns x 0 dU&&(aK x.name []&&fU x.v v0))),[]):=by
  unfold iq;simp only[pF,e8,eE,q11,ba,aD,aC,bt,gm]
 have q12:lF x.r (bq lay0.tab (n+4))=some (.p (.bool (aw (x.kids.length:Int) 0&&(aK x.name []&&fU x.v v0))),[]):=by
  unfold lF;simp only[Fq,pF,lβ,q1,bt,gm]
 have q9:ky x.r=some (.p (.bool false),[]):=by
  unfold ky;cases aw x.r.Op 8<;>rfl
 unfold yG;rw[tj];by_cases o1:x.op=1
 ·simp only[o1,aT,decide_true,aO,q2,ci,dw,Si,cond_true,gp,Hw,Lt,J6,Lu,Lv,pF,lβ,e7,ba,aD,aC];cases decide ((x.kids.length:Int)=0)<;>cases tK x.v<;>cases decide (x.v.k=1)<;>cases bu 0 x.v.n<;>cases decide (x.v.k=2)<;>cases decide (x.v.k=3)<;>cases aK x.name []<;>rfl
 by_cases o2:x.op=2
 ·simp only[o2,aT,Int.reduceEq,decide_true,decide_false,aO,aQ,cond_true,cond_false,ci,dw,gi,gp,Fq,Hw,Lt,J6,Lu,Lv,pF,lβ,ba,aD,bF,aC,bt,dH,gm,lE,e5,q1,ss,Bool.true_and]
 by_cases o3:x.op=3
 ·simp only[o3,aT,Int.reduceEq,decide_true,decide_false,aO,aQ,cond_true,cond_false,ci,dw,gi,gp,Fq,Hw,Lt,J6,Lu,Lv,pF,lβ,ba,aD,bF,aC,bt,dH,gm,q12]
 by_cases o14:x.op=14
 ·simp only[o14,aT,Int.reduceEq,decide_true,decide_false,aO,aQ,cond_true,cond_false,ci,dw,gi,gp,Fq,Hw,Lt,J6,Lu,Lv,pF,lβ,ba,aD,bF,aC,bt,dH,gm,q12]
 by_cases o4:x.op=4
 ·simp only[o4,aT,Int.reduceEq,decide_true,decide_false,aO,aQ,cond_true,cond_false,ci,dw,gi,gp,Fq,Hw,Lt,J6,Lu,Lv,pF,lβ,ba,aD,bF,aC,bt,dH,gm,q4];cases decide ((x.kids.length:Int)=1)<;>cases aK x.name [45]<;>cases aK x.name [33]<;>cases dE ns x 0 dU<;>rfl
 by_cases o5:x.op=5
 ·simp only[o5,aT,Int.reduceEq,decide_true,decide_false,aO,aQ,cond_true,cond_false,ci,dw,gi,gp,Fq,Hw,Lt,J6,Lu,Lv,pF,lβ,ba,aD,bF,aC,bt,dH,gm,q4,e9,acv];cases decide ((x.kids.length:Int)=2)<;>cases(binO.any fun t=>aK x.name t)<;>cases dE ns x 0 dU<;>rfl
 by_cases o6:x.op=6
 ·simp only[o6,aT,Int.reduceEq,decide_true,decide_false,aO,aQ,cond_true,cond_false,ci,dw,gi,gp,Fq,Hw,Lt,J6,Lu,Lv,pF,lβ,ba,aD,bF,aC,bt,dH,gm,q4,e5,ef,show bu 0 (x.kids.length:Int)=true by rw[bJ];simp];cases bu (x.kids.length:Int) 16<;>cases cH x.name<;>cases aK x.name [105,110,116,115]<;>cases aK x.name [115,116,114,105,110,103,115]<;>cases dE ns x 0 dU<;>rfl
 by_cases o7:x.op=7
 ·simp only[o7,aT,Int.reduceEq,decide_true,decide_false,aO,aQ,cond_true,cond_false,ci,dw,gi,gp,Fq,Hw,Lt,J6,Lu,Lv,pF,lβ,ba,aD,bF,aC,bt,dH,gm,e5,e6,e8,eE,e3,cU,ss,ef,Bool.and_true];cases bu 1 (x.kids.length:Int)<;>cases bu (x.kids.length:Int) 17<;>cases cH x.name<;>cases cH x.v.s<;>cases dE ns x 0 dU<;>rfl
 by_cases o8:x.op=8
 ·simp only[o8,aT,Int.reduceEq,decide_true,decide_false,aO,aQ,cond_true,cond_false,ci,dw,gi,gp,nP,cU,tj,Fq,Hw,Lt,J6,Lu,Lv,pF,lβ,e5,e4,q1,q9,ba,aD,aC,ss];by_cases hl:(x.kids.length:Int)=1
  ·obtain⟨k,hks⟩:∃k,x.kids=[k]:=by
    match hx:x.kids,hl with
    |[k],_=>exact⟨k,rfl⟩
    |[],hl=>simp at hl
    |_::_::_,hl=>simp at hl;omega
   obtain⟨y,hy⟩:=hk k (by rw[hks];exact lτ ..);have hoy:cE ns k=y.op:=by unfold cE;rw[hy];rfl
   simp only[hl,hks,show(([k]:List Int).length:Int)=1 from rfl,decide_true,aO,aE,aP,cM,bf,dI,hy,u0,tj,ev,ba,aD,aC,o8,dE,List.drop_zero,List.all_cons,List.all_nil,Bool.and_true,hoy,gj,Int.reduceEq,decide_false];cases cH x.name<;>cases se y.op<;>cases bu 1 x.v.k<;>cases bu x.v.k 5<;>simp only[aO,aQ,bt,dH,Bool.true_and,Bool.false_and,Bool.and_true,Bool.and_false,Bool.and_self,cond_true,cond_false]
  ·simp only[hl,decide_false,aQ,Bool.false_and]
 by_cases o9:x.op=9
 ·simp only[o9,aT,Int.reduceEq,decide_true,decide_false,aO,aQ,cond_true,cond_false,ci,dw,gi,gp,nP,cU,tj,Fq,Hw,Lt,J6,Lu,Lv,pF,lβ,e5,e4,q1,q9,ba,aD,aC,ss];by_cases hl:(x.kids.length:Int)=1
  ·obtain⟨k,hks⟩:∃k,x.kids=[k]:=by
    match hx:x.kids,hl with
    |[k],_=>exact⟨k,rfl⟩
    |[],hl=>simp at hl
    |_::_::_,hl=>simp at hl;omega
   obtain⟨y,hy⟩:=hk k (by rw[hks];exact lτ ..);have hoy:cE ns k=y.op:=by unfold cE;rw[hy];rfl
   simp only[hl,hks,show(([k]:List Int).length:Int)=1 from rfl,decide_true,aO,aE,aP,cM,bf,dI,hy,u0,tj,ev,ba,aD,aC,o9,dE,List.drop_zero,List.all_cons,List.all_nil,Bool.and_true,hoy,Int.reduceEq,decide_false];cases cH x.name<;>cases se y.op<;>simp only[aO,aQ,bt,dH,Bool.true_and,Bool.false_and,Bool.and_true,Bool.and_false,Bool.and_self,cond_true,cond_false]
  ·simp only[hl,decide_false,aQ,Bool.false_and]
 by_cases o10:x.op=10
 ·simp only[o10,aT,Int.reduceEq,decide_true,decide_false,aO,aQ,cond_true,cond_false,ci,dw,gi,gp,tj,pF,lβ,q11];by_cases hl:(x.kids.length:Int)=1
  ·obtain⟨k,hks⟩:∃k,x.kids=[k]:=by
    match hx:x.kids,hl with
    |[k],_=>exact⟨k,rfl⟩
    |[],hl=>simp at hl
    |_::_::_,hl=>simp at hl;omega
   obtain⟨y,hy⟩:=hk k (by rw[hks];exact lτ ..);have hoy:cE ns k=y.op:=by unfold cE;rw[hy];rfl
   simp only[hl,hks,show(([k]:List Int).length:Int)=1 from rfl,decide_true,aO,aE,aP,cM,bf,dI,hy,u0,tj,dE,List.drop_zero,List.all_cons,List.all_nil,Bool.and_true,hoy,zh,aT,Bool.true_and];by_cases h7:y.op=7
   ·cases aK x.name []<;>simp[h7,aO]
   ·cases aK x.name []<;>simp[h7,aQ]
  ·simp only[hl,decide_false,aQ,Bool.false_and]
 by_cases o11:x.op=11
 ·simp only[o11,aT,Int.reduceEq,decide_true,decide_false,aO,aQ,cond_true,cond_false,ci,dw,gi,Np,tj,pF,lβ,rB,nQ,q11];match hx:x.kids with
  |[]=>simp[ef,hx,bJ,aQ]
  |[_]=>simp[ef,hx,bJ,aQ]
  |[k0,k1]=>
   obtain⟨y0,h0⟩:=hk k0 (by rw[hx];simp);obtain⟨y1,h1⟩:=hk k1 (by rw[hx];simp);have g0:cE ns k0=y0.op:=by unfold cE;rw[h0];rfl
   have g1:cE ns k1=y1.op:=by unfold cE;rw[h1];rfl
   have w:ag .i64 (2 - 1)=1:=by decide
   simp only[List.length_cons,List.length_nil,Nat.zero_add,Nat.reduceAdd,Int.cast_ofNat_Int,decide_true,aO,aE,aP,cM,bf,dI,h0,u0,tj,ex,ba,aD,aC,w,show jI [k0,k1] 1=some k1 from rfl,h1,ef,hx,dE,List.headD_cons,List.drop_succ_cons,List.drop_zero,List.all_cons,List.all_nil,g0,g1,DI,aT,show bu 2 2=true from rfl,show bu 2 3=true from rfl,Bool.and_true,Bool.true_and];cases dU y0.op<;>by_cases h18:y1.op=18<;>cases aK x.name []<;>simp[h18,aO,aQ]
  |[k0,k1,k2]=>
   obtain⟨y0,h0⟩:=hk k0 (by rw[hx];simp);obtain⟨y1,h1⟩:=hk k1 (by rw[hx];simp);obtain⟨y2,h2'⟩:=hk k2 (by rw[hx];simp);have g0:cE ns k0=y0.op:=by unfold cE;rw[h0];rfl
   have g1:cE ns k1=y1.op:=by unfold cE;rw[h1];rfl
   have g2:cE ns k2=y2.op:=by unfold cE;rw[h2'];rfl
   have w:ag .i64 (3 - 1)=2:=by decide
   simp only[List.length_cons,List.length_nil,Nat.zero_add,Nat.reduceAdd,Int.cast_ofNat_Int,Int.reduceEq,decide_true,decide_false,aO,aQ,aE,aP,cM,bf,dI,h0,u0,tj,ex,ba,aD,aC,w,show jI [k0,k1,k2] 1=some k1 from rfl,show jI [k0,k1,k2] 2=some k2 from rfl,h1,h2',ef,hx,dE,List.headD_cons,List.drop_succ_cons,List.drop_zero,List.all_cons,List.all_nil,g0,g1,g2,DI,aT,show bu 2 3=true from rfl,show bu 3 3=true from rfl,Bool.and_true,Bool.true_and];cases dU y0.op<;>by_cases h18:y1.op=18<;>by_cases h19:y2.op=18<;>cases aK x.name []<;>simp[h18,h19,aO,aQ]
  |a::b::c::d::r=>
   have z2:¬(((a::b::c::d::r).length:Int)=2):=by simp;omega
   have z3:¬(((a::b::c::d::r).length:Int)=3):=by simp;omega
   have z4:bu ((a::b::c::d::r).length:Int) 3=false:=by rw[bJ];simp;omega
   simp only[z2,z3,decide_false,aQ,ef,hx,z4,Bool.and_false,Bool.false_and]
 by_cases o12:x.op=12
 ·simp only[o12,aT,Int.reduceEq,decide_true,decide_false,aO,aQ,cond_true,cond_false,ci,dw,gi,Np,tj,pF,lβ,nQ,q11,gp];match hx:x.kids with
  |[]=>simp[hx,aQ]
  |[_]=>simp[hx,aQ]
  |[k0,k1]=>
   obtain⟨y0,h0⟩:=hk k0 (by rw[hx];simp);obtain⟨y1,h1⟩:=hk k1 (by rw[hx];simp);have g0:cE ns k0=y0.op:=by unfold cE;rw[h0];rfl
   have g1:cE ns k1=y1.op:=by unfold cE;rw[h1];rfl
   simp only[List.length_cons,List.length_nil,Nat.zero_add,Nat.reduceAdd,Int.cast_ofNat_Int,decide_true,aO,aE,aP,cM,bf,dI,h0,u0,tj,ex,ba,aD,aC,show jI [k0,k1] 1=some k1 from rfl,h1,hx,dE,List.headD_cons,List.drop_succ_cons,List.drop_zero,List.all_cons,List.all_nil,g0,g1,DI,aT,Bool.and_true,Bool.true_and];cases dU y0.op<;>by_cases h18:y1.op=18<;>cases aK x.name []<;>simp[h18,aO,aQ]
  |a::b::c::r=>
   have z2:¬(((a::b::c::r).length:Int)=2):=by simp;omega
   simp only[z2,hx,decide_false,aQ,Bool.false_and]
 by_cases o13:x.op=13
 ·simp only[o13,aT,Int.reduceEq,decide_true,decide_false,aO,aQ,cond_true,cond_false,ci,dw,gi,gp,Fq,Hw,Lt,J6,Lu,Lv,pF,lβ,ba,aD,bF,aC,bt,dH,gm,q6,ef,show bu 0 (x.kids.length:Int)=true by rw[bJ];simp];cases bu (x.kids.length:Int) 1<;>cases dE ns x 0 dU<;>cases aK x.name []<;>rfl
 by_cases o15:x.op=15
 ·simp only[o15,aT,Int.reduceEq,decide_true,decide_false,aO,aQ,cond_true,cond_false,ci,dw,gi,gp,Fq,Hw,Lt,J6,Lu,Lv,pF,lβ,ba,aD,bF,aC,bt,dH,gm,q6];cases decide ((x.kids.length:Int)=2)<;>cases dE ns x 0 dU<;>cases aK x.name []<;>rfl
 by_cases o16:x.op=16
 ·simp only[o16,aT,Int.reduceEq,decide_true,decide_false,aO,aQ,cond_true,cond_false,ci,dw,gi,gp,Fq,Hw,Lt,J6,Lu,Lv,pF,lβ,ba,aD,bF,aC,bt,dH,gm,q6];cases decide ((x.kids.length:Int)=3)<;>cases dE ns x 0 dU<;>cases aK x.name []<;>rfl
 by_cases o17:x.op=17
 ·simp only[o17,aT,Int.reduceEq,decide_true,decide_false,aO,aQ,cond_true,cond_false,ci,dw,gi,gp,Fq,Hw,Lt,J6,Lu,Lv,pF,lβ,ba,aD,bF,aC,bt,dH,gm,q6];cases decide ((x.kids.length:Int)=1)<;>cases dE ns x 0 dU<;>cases aK x.name []<;>rfl
 by_cases o18:x.op=18
 ·simp only[o18,aT,Int.reduceEq,decide_true,decide_false,aO,aQ,cond_true,cond_false,ci,dw,gi];have g:=fun k0=>HK (m:=n+3) ns x [] [] hk b1 k0 x.kids.length (n+4) 0 true (by omega) (by omega)
  simp only[show((0:Nat):Int)=0 from rfl,List.drop_zero,Bool.true_and]at g;simp only[pF,lβ,g,Fq,Hw,Lt,J6,Lu,Lv,e2,cU,ba,aD,aC,bt,dH,gm,dE,List.drop_zero,v0,Bool.and_true]
 ·simp only[aT,o1,o2,o3,o4,o5,o6,o7,o8,o9,o10,o11,o12,o13,o14,o15,o16,o17,o18,decide_false,aQ,ci,cond_false,Bool.false_and]
end
end Go.Ab
end
section
namespace Go.Ab
open Go
set_option maxRecDepth 100000
noncomputable section
theorem Fu {n:Nat}(xs ys:List Int)(lo len:Nat)(hl:lo+len≤xs.length)(h:ys.length<n)(hb:ys.length<9223372036854775808):evFn lay0.tab (n+1) 50 [.p (.slice 1 (ys.map iE)),.arr 0 lo len 1] [.arr (xs.map iE)]=some (.p (.bool (decide ((xs.drop lo).take len=ys))),[.arr (xs.map iE)]):=by
 apply FI n (xs.map iE) lo len (ys.map iE);have hzl:((xs.drop lo).take len).length=len:=by simp;omega
 simp only[oq,lβ,aT,cr];by_cases he:ys.length=len
 ·rw[if_pos (by omega)];have hl2:ys.length=((xs.drop lo).take len).length:=by omega
  refine(aV (ys.zip ((xs.drop lo).take len)) (fun q i=>gZ _ n _ _ q (ys.map iE,lo,len,i,xs.map iE)) (fun t=>!aw t.1 t.2) (fun i=>some (.p (.bool false),[.arr (xs.map iE)])) (some (.p (.bool true),[.arr (xs.map iE)])) (fun q i hi=>?_) (fun q=>?_) (by simp only[mμ];omega)).trans ?_
  ·simp only[mμ]at hi;rw[oQ];have hg:(xs.map iE)[lo+i]?=some (iE (((xs.drop lo).take len)[i]'(by omega))):=by
    rw[lψ,lγ (by omega)];simp
   simp only[eW,lβ,cK (show((i:Int)<(ys.length:Int)) by omega),cK (show((i:Int)<(len:Int)) by omega),aO,bJ,show(0:Int)≤(i:Int) by omega,decide_true,Int.toNat_natCast,hg,aE,aP,aM (show i<ys.length by omega),bf,dI,wBr (show i<9223372036854775807 by omega),List.getElem_zip];exact dq _ _ _
  ·rw[oQ];simp only[eW,lβ,mμ,←hl2,Nat.min_self,cb,aQ]
  ·have key:=pC aw hl2 aT;cases hf:(ys.zip ((xs.drop lo).take len)).findIdx? (fun t=>!aw t.1 t.2)with
   |none=>simp only[(key.1 hf).symm,decide_true]
   |some j=>
    have:¬(xs.drop lo).take len=ys:=fun e=>by rw[key.2 e.symm]at hf;cases hf
    simp only[this,decide_false]
 ·rw[if_neg (by omega)];have:¬(xs.drop lo).take len=ys:=fun e=>he (by rw[←e];omega)
  simp only[this,decide_false]
theorem E5 {n:Nat}(ns:List No)(hkl:∀x∈ns,x.kids.length<1000000000000)(hl:ns.length<1501)(k0:LD→R)(k1:cP→R)(hk0:∀a,k0 a=some (.p (.bool false),[]))(hk1:∀a b c d,k1 (a,b,c,d)=some (.p (.bool (decide (b=1))),[])):∀(e q i:Nat) (roots:List Int),i+e=ns.length→e<q→roots.length≤i→
  L_r18PostOrder_1 (bq lay0.tab (n+1502)) (n+1502) k0 k1 q (ns.map No.e,roots.length,(i:Int),roots.map iE)=some (.p (.bool (dV (ns.drop i) i roots)),[])
 |0,q+1,i,roots,h,_,_=>by
  obtain rfl:i=ns.length:=by omega
  rw[nM];simp only[eb,lβ,cb,aQ,List.drop_length,dV,hk1]
 |e+1,q+1,i,roots,h,hq,hr=>by
  have hi:i<ns.length:=by omega
  have hx:ns[i]∈ns:=lι _;have hkx:=hkl _ hx;rw[nM,lξ hi];have hw:ag .i64 ((roots.length:Int) - ((ns[i].kids.map iE).length:Int))=(roots.length:Int) - (ns[i].kids.length:Int):=by
   rw[lβ,iD (by omega) (by omega)]
  simp only[eb,lβ,cK (show((i:Int)<(ns.length:Int)) by omega),aO,aE,aP,aM hi,bf,u0,pF,dV];rw[lβ]at hw;by_cases hlt:roots.length<ns[i].kids.length
  ·rw[if_pos hlt,cK (by omega),aO,hk0]
  ·rw[if_neg hlt,vp (by omega),aQ];have ht:((roots.length:Int) - (ns[i].kids.length:Int)).toNat=roots.length - ns[i].kids.length:=by omega
   have hm:List.take (roots.length - ns[i].kids.length - 0) (List.drop 0 (roots.map iE))++[Da.int .i64 (i:Int)]=(roots.take (roots.length - ns[i].kids.length)++[(i:Int)]).map iE:=by
    rw[List.map_append,List.map_take];rfl
   have hb0:dW (0+(List.take (roots.length - ns[i].kids.length - 0) (List.drop 0 (roots.map iE))).length) 8=true:=IX (by simp;omega);have hb:dW ((List.take (roots.length - ns[i].kids.length - 0) (List.drop 0 (roots.map iE))).length+[Da.int .i64 (i:Int)].length) 8=true:=IX (by simp;omega);have hv:=aa (Fu (n:=n+1501) roots ns[i].kids (roots.length - ns[i].kids.length) (roots.length - (roots.length - ns[i].kids.length)) (by omega) (by omega) (by omega));have hz:=aa (vK (n:=n+1501) ns[i].kids [] (by omega) (by omega));have hdr:(roots.drop (roots.length - ns[i].kids.length)).take (roots.length - (roots.length - ns[i].kids.length))=roots.drop (roots.length - ns[i].kids.length):=by
    rw[mι (by simp)]
   rw[hdr]at hv;simp only[List.map_nil]at hz;have hrec:=E5 (n:=n) ns hkl hl k0 k1 hk0 hk1 e q (i+1) (roots.take (roots.length - ns[i].kids.length)++[(i:Int)]) (by omega) (by omega) (by simp;omega);simp only[jQ,jP,pF,lβ,hw,bJ,show(0:Int)≤(roots.length:Int) - (ns[i].kids.length:Int) by omega,show(roots.length:Int) - (ns[i].kids.length:Int)≤(roots.length:Int) by omega,decide_true,aO,ht,Nat.zero_add,hv,hz,ba,aD,hH,aC,show ∀(l:LD) (K:LD→R),EC (Ob.arr l) K=K l from fun _ _=>rfl,hk0,wS (show i<bZ by unfold bZ;omega),XH,eK];rw[Nat.zero_add]at hb0;simp only[hb0,hb,hm,aO,lβ,hrec];by_cases hd:roots.drop (roots.length - ns[i].kids.length)=ns[i].kids
   ·rw[if_pos hd];by_cases h0:roots.length - ns[i].kids.length=roots.length
    ·have hk:ns[i].kids=([]:List Int):=by rw[←hd,h0,List.drop_length]
     simp only[h0,hd,hk,if_true,decide_true];cases Nat.blt 0 roots.length<;>simp[aO,aQ]
    ·simp only[h0,hd,if_false,if_true]
   ·rw[if_neg hd];by_cases h0:roots.length - ns[i].kids.length=roots.length
    ·have hk:¬ns[i].kids=([]:List Int):=fun e=>hd (by rw[e];simp)
     simp only[h0,hd,hk,if_true,if_false];cases Nat.blt 0 roots.length<;>simp[hk,aO,aQ]
    ·simp only[h0,hd,if_false]
theorem CC {n:Nat}(ns:List No)(hkl:∀x∈ns,x.kids.length<1000000000000)(hl:ns.length<1501):evFn lay0.tab (n+1503) 200 [.p (.slice 8 (ns.map No.e))] []=some (.p (.bool (dV ns 0 [])),[]):=by
 apply Dw (n+1502) (ns.map No.e);unfold lW;refine(E5 (n:=n) ns hkl hl _ _ (fun _=>rfl) (fun a b c d=>?_) ns.length (n+1502) 0 [] (by omega) (by omega) (by simp)).trans rfl;show iL (aw (b:Int) 1) _ _=_;rw[bt,dH,aT];congr 4;rw[decide_eq_decide];omega
theorem Cq:∀(r:List No) (i:Nat) (roots:List Int),fh i roots→dV r i roots=true→∀(j:Nat) x,r[j]?=some x→fh (i+j) x.kids
 |[],_,_,_,_,j,x,hx=>by simp at hx
 |y::r,i,roots,hr,h,j,x,hx=>by
  simp only[dV]at h;split at h
  ·cases h
  ·split at h
   ·rename_i hlen hdrop;cases j with
    |zero=>
     simp only[List.getElem?_cons_zero,lα]at hx;subst hx;intro k hk;rw[←hdrop]at hk;exact hr k (mπ hk)
    |succ j=>
     rw[List.getElem?_cons_succ]at hx;have:=Cq r (i+1) _ ?_ h j x hx
     ·rw[show i+(j+1)=i+1+j by omega];exact this
     ·intro k hk;rcases mρ.1 hk with hk|hk
      ·obtain⟨g1,g2⟩:=hr k (qα hk);exact⟨g1,by omega⟩
      ·simp only[List.mem_singleton]at hk;subst hk;omega
   ·cases h
theorem Zg:∀(l:List No) (i:Nat) (hs:List Int) (j:Nat),j<i→(hN l i hs).getD j 0=hs.getD j 0
 |[],_,_,_,_=>rfl
 |x::r,i,hs,j,h=>by
  simp only[hN];rw[Zg r (i+1) _ j (by omega)];simp only[lρ,List.getElem?_set];rw[if_neg (by omega)]
theorem Ze (op:Int)(hs hs':List Int):∀(l:List Int) (j:Nat) (m:Int),(∀k∈l,hs.getD k.toNat 0=hs'.getD k.toNat 0)→hK op hs l j m=hK op hs' l j m
 |[],_,_,_=>rfl
 |k::r,j,m,h=>by
  simp only[hK,h k (lτ ..)];exact Ze op hs hs' r (j+1) _ fun x hx=>h x (lχ _ hx)
theorem adJ:∀(l:List No) (i:Nat) (hs:List Int) (j:Nat) (x:No),l[j]?=some x→i+l.length≤hs.length→(∀(j:Nat) x,l[j]?=some x→fh (i+j) x.kids)→(hN l i hs).getD (i+j) 0=Nk x.op (hK x.op (hN l i hs) x.kids 0 0)
 |[],_,_,j,x,h,_,_=>by simp at h
 |y::r,i,hs,j,x,h,hl,hk=>by
  simp only[List.length_cons]at hl;cases j with
  |zero=>
   simp only[List.getElem?_cons_zero,lα]at h;subst h;have h0:=hk 0 y rfl;simp only[hN];show(hN r (i+1) (hs.set i (Nk y.op (hK y.op hs y.kids 0 0)))).getD i 0=_;rw[Zg r (i+1) _ i (by omega),lρ,qγ (by omega),Option.getD_some];congr 1;refine Ze _ _ _ _ _ _ fun k hm=>?_
   obtain⟨g1,g2⟩:=h0 k hm;have g2:k<(i:Int):=g2;rw[Zg r (i+1) _ k.toNat (by omega)];simp only[lρ,List.getElem?_set];rw[if_neg (by omega)]
  |succ j=>
   rw[List.getElem?_cons_succ]at h;have:=adJ r (i+1) (hs.set i (Nk y.op (hK y.op hs y.kids 0 0))) j x h (by rw[List.length_set];omega) fun j x hx=>by
    have:=hk (j+1) x (by rw[List.getElem?_cons_succ];exact hx);rw[show i+1+j=i+(j+1) by omega];exact this
   rw[show i+(j+1)=i+1+j by omega];exact this
def hgt (ns:List No):List Int:=hN ns 0 (List.replicate ns.length 0)
theorem afn {ns:List No}(hp:dV ns 0 []=true){i:Nat}{x:No}(hx:ns[i]?=some x):(hgt ns).getD i 0=Nk x.op (hK x.op (hgt ns) x.kids 0 0):=by
 have:=adJ ns 0 (List.replicate ns.length 0) i x hx (by simp) (Cq ns 0 [] (fun k h=>by cases h) hp);rw[Nat.zero_add]at this;exact this
theorem HM {m:Nat}(ns:List No)(k0:gz→R)(x:No)(hl:x.kids.length<1501)(hr:∀k∈x.kids,∀K:KV,bq lay0.tab m 197 [.p (.slice 8 (ns.map No.e)),.p (.int .i64 k)] [] K=K (.p (.int .i64 ((hgt ns).getD k.toNat 0))) []):∀(e q j:Nat) (mx:Int),j+e=x.kids.length→e<q→
  L_r18Height_1 (bq lay0.tab m) m k0 q (ns.map No.e,mx,(j:Int),x.r)=k0 (ns.map No.e,hK x.op (hgt ns) (x.kids.drop j) j mx,(x.kids.length:Int),x.r)
 |0,q+1,j,mx,h,_=>by
  obtain rfl:j=x.kids.length:=by omega
  rw[ru];simp only[gJ,pF,lβ,cb,aQ,List.drop_length,hK]
 |e+1,q+1,j,mx,h,hq=>by
  have hj:j<x.kids.length:=by omega
  rw[ru,lξ hj];simp only[gJ,pF,lβ,cK (show((j:Int)<(x.kids.length:Int)) by omega),aO,aE,aP,aM hj,bf,dI,hr _ (lι _),ba,bF,aC,tj,wS (show j<bZ by unfold bZ;omega),hK];cases aw (j:Int) 0<;>cases aw x.op 11<;>cases aw x.op 12<;>exact HM ns k0 x hl hr e q (j+1) _ (by omega) (by omega)
theorem Ak {n:Nat}(ns:List No)(hp:dV ns 0 []=true)(hkl:∀x∈ns,x.kids.length<1501):∀(f i:Nat),i<f→i<ns.length→evFn lay0.tab (n+1502+f) 197 [.p (.slice 8 (ns.map No.e)),.p (.int .i64 i)] []=some (.p (.int .i64 ((hgt ns).getD i 0)),[])
 |0,i,h,_=>by omega
 |f+1,i,h,hi=>by
  have hx:ns[i]?=some ns[i]:=lγ hi;have hk:=Cq ns 0 [] (fun k h=>by cases h) hp i ns[i] hx;rw[Nat.zero_add]at hk;have hkx:=hkl ns[i] (lι _);rw[afn hp hx];show evFn lay0.tab (n+1502+f+1) _ _ _=_;apply Mf (n+1502+f) (ns.map No.e) i;unfold q7;have g:=fun k0=>HM (m:=n+1502+f) ns k0 ns[i] hkx (fun k hm K=>by
   obtain⟨g1,g2⟩:=hk k hm;obtain⟨j,rfl⟩:∃j:Nat,k=(j:Int):=⟨k.toNat,by omega⟩
   have:=Ak (n:=n) ns hp hkl f j (by omega) (by omega);rw[Int.toNat_natCast];exact aa this K) ns[i].kids.length (n+1502+f) 0 0 (by omega) (by omega)
  simp only[show((0:Nat):Int)=0 from rfl,List.drop_zero]at g;simp only[aE,aP,aM hi,bf,u0,g,tj];unfold Nk;cases aw ns[i].op 4<;>cases aw ns[i].op 5<;>cases aw ns[i].op 6<;>cases aw ns[i].op 7<;>cases aw ns[i].op 15<;>cases aw ns[i].op 16<;>cases aw ns[i].op 17<;>cases aw ns[i].op 18<;>rfl
structure SzS (n:Nat)(x:No):Prop where
 nm:x.name.length<n∧x.name.length<9223372036854775808
 vs:x.v.s.length<n∧x.v.s.length<9223372036854775808
theorem TP {n b:Nat}(ns:List No)(hs:∀x∈ns,x.kids.length<b∧x.v.I.length<b∧x.v.L.length<b)(hbb:b≤1000000000000)(hbn:b≤n+4497)(hl:ns.length<1501)(hn:∀x∈ns,SzS n x)(hb:n≤400000000000000000000):evFn lay0.tab (n+4503) 158 [.p (.slice 8 (ns.map No.e))] []=some (.p (.bool (fR ns)),[]):=by
 apply Uh (n+4502) (ns.map No.e);unfold yF fR;simp only[aa (CC (n:=n+2999) ns (fun x hx=>by have:=(hs x hx).1;omega) hl),ba,aD,aC];cases hp:dV ns 0 []with
 |false=>rfl
 |true=>
  obtain⟨k,hsub,hk1⟩:=tv ns 0 [] rfl (Nat.zero_le _) .nil hp;have hks:∀x∈ns,x.kids.length<1501:=fun x hx=>by have:=xF ns 0 [] (by simp) hp x hx;omega
  have hkk:=tu (b:=ns.length) ns 0 [] (by omega) (fun k hk=>by cases hk) hp;have hw:ag .i64 (((ns.map No.e).length:Int) - 1)=((ns.length - 1:Nat):Int):=by rw[lβ,iD (by omega) (by omega)];omega
  have hlt:ns.length - 1<ns.length:=by omega
  simp only[hw,aO,aE,aP,aM hlt,bf,u0,tj,cE,Option.map_some,Option.getD_some,Bool.true_and];cases aw ns[ns.length - 1].op 18 with
  |false=>rfl
  |true=>
   simp only[Bool.not_true,aQ,Bool.true_and];have hh:=aa (Ak (n:=n+1499) ns hp hks 1501 (ns.length - 1) (by omega) (by omega));refine(aV ns (fun q i=>nz _ (n+4502) _ _ q (ns.map No.e,i)) (fun x=>!(ci ns x&&dw x)) (fun i=>some (.p (.bool false),[])) (some (.p (.bool (bu (w5 ns) 24)),[])) (fun q i hi=>?_) (fun q=>?_) (by omega)).trans ?_
   ·rw[vU];have hx:ns[i]∈ns:=lι _;have sx:=hs _ hx;have tx:=hn _ hx;have e1:=aa (TQ (n:=n+4497) ns ns[i] (SK (hkk _ hx)) (by omega) (by have:=tx.nm;omega) (by have:=tx.vs;omega) (by omega) (by omega) (by omega) (by have:=tx.nm;omega) (by have:=tx.vs;omega) (by omega) (by omega));simp only[No.e]at e1;simp only[kD,lβ,cK (show((i:Int)<(ns.length:Int)) by omega),aO,aE,aP,aM hi,bf,u0,wS (show i<bZ by unfold bZ;omega),e1,ba,aD,aC];cases ci ns ns[i]<;>cases dw ns[i]<;>rfl
   ·rw[vU];simp only[kD,lβ,cb,aQ];rw[lβ]at hw;simp only[hw,hh,ba,bF,aC,bt,dH];rfl
   ·rw[f4];cases ns.findIdx? fun x=>!(ci ns x&&dw x)<;>rfl
structure We (n:Nat)(a:Ac):Prop where
 nm:a.name.length<n∧a.name.length<9223372036854775808
 ff:∀f∈a.fields,f.name.length<n∧f.name.length<9223372036854775808
 mm:∀m∈a.methods,(m.name.length<n∧m.name.length<9223372036854775808)∧(∀p∈m.params,p.name.length<n∧p.name.length<9223372036854775808)∧∀x∈m.nodes,SzS n x
theorem acA {k:Nat}(h:k<1501):(bif aW 1501 (k:Int)then(1501:Int)else(k:Int))=(k:Int):=by
 rw[vp (by omega)];rfl
theorem ahb (k:Int):(!aW k 0&&!aW 5 k)=(!(!aw k 0)||gj k):=by
 unfold gj;rw[mδ];simp only[mT,aT,bJ,lδ,mψ,Bool.not_eq_true',Bool.not_not,lη,mβ];omega
theorem VV {m:Nat}(ps:List Pa)(hs:∀p∈ps,p.name.length<m∧p.name.length<9223372036854775808)(hl:ps.length<1501)(hb:m≤400000000000000000000)(a b c:Int)(P:af)(A:ae)(M:ah)(hM:M.Params=ps.map Pa.e)(k0:af×ae×ah→R)(k1:iN→R){q:Nat}(hq:ps.length<q):
  L_r18Valid_4 (bq lay0.tab (m+3)) (m+3) k0 k1 q (a,b,c,0,P,A,M)=bif ps.all (fun p=>cH p.name&&gj p.kind)then k1 (a,b,c,(ps.length:Int),P,A,M)else k0 (P,A,M):=by
 refine(aV ps (fun q i=>L_r18Valid_4 _ (m+3) _ _ q (a,b,c,i,P,A,M)) (fun p=>!(cH p.name&&gj p.kind)) (fun i=>k0 (P,A,M)) (k1 (a,b,c,(ps.length:Int),P,A,M)) (fun q i hi=>?_) (fun q=>?_) hq).trans ?_
 ·rw[tQ];have hx:=hs ps[i] (lι _);have e1:=aa (il (n:=m) ps[i].name hx.1 hx.2);have hk:gj ps[i].kind=(!aW ps[i].kind 1&&!aW 5 ps[i].kind):=rfl;simp only[jg,hM,lβ,cK (show((i:Int)<(ps.length:Int)) by omega),aO,aE,aP,aM hi,bf,dPa,show ∀p:Pa,p.r.Name=p.name from fun _=>rfl,show ∀p:Pa,p.r.Kind=p.kind from fun _=>rfl,wS (show i<bZ by unfold bZ;omega),hk,e1,ba,aD,aC];cases cH ps[i].name<;>cases aW ps[i].kind 1<;>cases aW 5 ps[i].kind<;>rfl
 ·rw[tQ];simp only[jg,hM,lβ,cb,aQ]
 ·rw[f4];cases ps.findIdx? fun p=>!(cH p.name&&gj p.kind)<;>rfl
theorem afL {k:Nat}{t:Int}(h0:0≤t)(h1:t≤1500)(h:1500<k):aW 1500 (ag .i64 (t+(bif aW 1501 (k:Int)then(1501:Int)else(k:Int))))=true:=by
 by_cases hk:1501<(k:Int)
 ·rw[cK hk,cond_true,iD (by omega) (by omega),cK (by omega)]
 ·rw[vp hk,cond_false,iD (by omega) (by omega),cK (by omega)]
theorem HN {m b:Nat}(a:Ac)(hz:GQ b a)(hbb:b≤1000000000000)(hbm:b≤m+4497)(hml:a.methods.length<1501)(hs:We m a)(hb:m≤300000000000000000000)(i:Int)(P:af)(k0:af×ae×ah→R)(k1:iM→R)(Z:R)(hk0:∀x,k0 x=Z):∀(e q j:Nat) (t:Int),j+e=a.methods.length→e<q→0≤t→t≤1500→
  L_r18Valid_3 (bq lay0.tab (m+4506)) (m+4506) k0 k1 q (t,i,(j:Int),P,a.r)=match sg (a.methods.drop j) t with|none=>Z|some t=>k1 (t,i,(a.methods.length:Int),P,a.r)
 |0,q+1,j,t,h,_,_,_=>by
  obtain rfl:j=a.methods.length:=by omega
  rw[tP];simp only[jf,show a.r.Methods=a.methods.map Me.e from rfl,lβ,cb,aQ,List.drop_length,sg]
 |e+1,q+1,j,t,h,hq,h0,h1=>by
  have hj:j<a.methods.length:=by omega
  obtain⟨hx1,hx2,hx3⟩:=hz.mp a.methods[j] (lι _);obtain⟨s1,s2,s3⟩:=hs.mm a.methods[j] (lι _);have e1:=aa (il (n:=m+4503) a.methods[j].name (by omega) (by omega));have hw:ag .i64 (t+(a.methods[j].nodes.length:Int))=t+(a.methods[j].nodes.length:Int):=iD (by omega) (by omega);rw[tP,lξ hj];simp only[jf,show a.r.Methods=a.methods.map Me.e from rfl,lβ,cK (show((j:Int)<(a.methods.length:Int)) by omega),aO,aE,aP,aM hj,bf,Yy,wS (show j<bZ by unfold bZ;omega),show a.methods[j].r.Nodes=a.methods[j].nodes.map No.e from rfl,show a.methods[j].r.Name=a.methods[j].name from rfl,show a.methods[j].r.Result=a.methods[j].result from rfl,show a.methods[j].r.Params=a.methods[j].params.map Pa.e from rfl,lβ,e1,ba,aD,aC,hk0,sg,pc,←ahb];by_cases hbig:1500<a.methods[j].nodes.length
  ·rw[afL h0 h1 hbig,hw,cK (show(1500:Int)<t+(a.methods[j].nodes.length:Int) by omega)];rfl
  have e2:=aa (TP (n:=m+3) a.methods[j].nodes hx3 hbb (by omega) (by omega) (fun x hx=>⟨by have:=(s3 x hx).nm;omega,by have:=(s3 x hx).vs;omega⟩) (by omega));simp only[acA (show a.methods[j].nodes.length<1501 by omega),e2,ba,aD,aC];by_cases hg:1500<t+(a.methods[j].nodes.length:Int)
  ·rw[hw,cK hg];rfl
  have ih:=HN (m:=m) a hz hbb hbm hml hs hb i P k0 k1 Z hk0 e q (j+1) (t+(a.methods[j].nodes.length:Int)) (by omega) (by omega) (by omega) (by omega);rw[hw,vp hg];cases cH a.methods[j].name
  ·rfl
  cases aW a.methods[j].result 0
  ·cases aW 5 a.methods[j].result
   ·by_cases hp4:4<(a.methods[j].params.length:Int)
    ·rw[cK hp4];rfl
    ·have e3:=fun t i2 k1' k0'=>VV (m:=m+4503) a.methods[j].params (fun p hp=>by have:=s2 p hp;omega) (by omega) (by omega) t i2 (j:Int) P a.r a.methods[j].r rfl k0' k1' (q:=m+4506) (by omega)
     rw[vp hp4];simp only[e3,hk0,aQ,Bool.not_false,Bool.true_and];cases fR a.methods[j].nodes
     ·cases(a.methods[j].params.all fun p=>cH p.name&&gj p.kind)<;>rfl
     ·cases(a.methods[j].params.all fun p=>cH p.name&&gj p.kind)
      ·rfl
      ·simp only[aO,aQ,cond_true,cond_false,Bool.and_self,wS (show j<bZ by unfold bZ;omega)];exact ih
   ·cases aW 4 (a.methods[j].params.length:Int)<;>rfl
  ·cases aW 4 (a.methods[j].params.length:Int)<;>rfl
theorem VT {m b:Nat}(a:Ac)(hz:GQ b a)(hbb:b≤1000000000000)(hbm:b≤m+4497)(hfl:a.fields.length<1501)(hs:We m a)(hb:m≤300000000000000000000)(t i:Int)(P:af)(k0:af×ae→R)(k1:iK→R){q:Nat}(hq:a.fields.length<q):
  L_r18Valid_2 (bq lay0.tab (m+4506)) (m+4506) k0 k1 q (t,i,0,P,a.r)=bif !a.fields.any (fun f=>!ej f)then k1 (t,i,(a.fields.length:Int),P,a.r)else k0 (P,a.r):=by
 refine(aV a.fields (fun q j=>L_r18Valid_2 _ (m+4506) _ _ q (t,i,j,P,a.r)) (fun f=>!ej f) (fun j=>k0 (P,a.r)) (k1 (t,i,(a.fields.length:Int),P,a.r)) (fun q j hj=>?_) (fun q=>?_) hq).trans ?_
 ·rw[tO];have hf:=hz.fv a.fields[j] (lι _);have e1:=aa (H0 (n:=m+4502) a.fields[j] (by have:=hs.ff a.fields[j] (lι _);omega) (by omega) (by omega) (by have:=hs.ff a.fields[j] (lι _);omega) (by omega) (by omega));simp only[Fe.e]at e1;simp only[je,show a.r.Fields=a.fields.map Fe.e from rfl,lβ,cK (show((j:Int)<(a.fields.length:Int)) by omega),aO,aE,aP,aM hj,bf,dFe,wS (show j<bZ by unfold bZ;omega),e1,ba,aD,aC];cases ej a.fields[j]<;>rfl
 ·rw[tO];simp only[je,show a.r.Fields=a.fields.map Fe.e from rfl,lβ,cb,aQ]
 ·rw[←List.findIdx?_isSome];cases a.fields.findIdx? fun f=>!ej f<;>rfl
theorem HO {m b:Nat}(p:List Ac)(hz:∀a∈p,GQ b a)(hbb:b≤1000000000000)(hbm:b≤m+4497)(hl:p.length<1501)(hs:∀a∈p,We m a)(hb:m≤300000000000000000000)(k0:af×ae→R)(k1:af×ae×ah→R)(k2:iJ→R)(Z W:R)(hk0:∀x,k0 x=Z)(hk1:∀x,k1 x=Z)(hk2:∀x,k2 x=W):∀(e q j:Nat) (t:Int),j+e=p.length→e<q→0≤t→t≤1500→
  L_r18Valid_1 (bq lay0.tab (m+4506)) (m+4506) k0 k1 k2 q (t,(j:Int),⟨p.map Ac.e⟩)=match yw (p.drop j) t with|none=>Z|some _=>W
 |0,q+1,j,t,h,_,_,_=>by
  obtain rfl:j=p.length:=by omega
  rw[tN];simp only[jd,lβ,cb,aQ,List.drop_length,yw,hk2]
 |e+1,q+1,j,t,h,hq,h0,h1=>by
  have hj:j<p.length:=by omega
  have hx:=hz p[j] (lι _);have sx:=hs p[j] (lι _);have e1:=aa (il (n:=m+4503) p[j].name (by have:=sx.nm;omega) (by have:=sx.nm;omega));rw[tN,lξ hj];simp only[jd,lβ,cK (show((j:Int)<(p.length:Int)) by omega),aO,aE,aP,aM hj,bf,QE,show p[j].r.Name=p[j].name from rfl,show p[j].r.Fields=p[j].fields.map Fe.e from rfl,show p[j].r.Methods=p[j].methods.map Me.e from rfl,lβ,wS (show j<bZ by unfold bZ;omega),e1,ba,aD,aC,hk0,hk1,yw,Qp];cases cH p[j].name
  ·rfl
  by_cases hf:8<(p[j].fields.length:Int)
  ·rw[cK hf];rfl
  by_cases hm:16<(p[j].methods.length:Int)
  ·rw[vp hf,cK hm];rfl
  rw[vp hf,vp hm];have e2:=fun k0' k1'=>VT (m:=m) p[j] hx hbb hbm (by omega) sx hb t (j:Int) ⟨p.map Ac.e⟩ k0' k1' (q:=m+4506) (by omega)
  have e3:=fun k0' k1' hk=>HN (m:=m) p[j] hx hbb hbm (by omega) sx hb (j:Int) ⟨p.map Ac.e⟩ k0' k1' Z hk p[j].methods.length (m+4506) 0 t (by omega) (by omega) h0 h1
  simp only[show((0:Nat):Int)=0 from rfl,List.drop_zero]at e3;have e3':=fun k1'=>e3 (fun(u70,u71,u72)=>Z) k1' (fun _=>rfl)
  simp only[e2,e3',hk0,hk1,aO,aQ,Bool.not_false,Bool.true_and,wS (show j<bZ by unfold bZ;omega)];cases p[j].fields.any fun f=>!ej f
  ·simp only[aO,aQ,Bool.not_false,Bool.true_and,cond_true];cases hss:sg p[j].methods t with
   |none=>rfl
   |some t'=>
    obtain⟨g1,g2,_⟩:=qq _ _ _ hss (fun m hm=>by have:=(hx.mp m hm).2.1;omega) h0 h1;exact HO p hz hbb hbm hl hs hb k0 k1 k2 Z W hk0 hk1 hk2 e q (j+1) _ (by omega) (by omega) g1 g2
  ·rfl
theorem CD {n b:Nat}(p:List Ac)(hz:∀a∈p,GQ b a)(hbb:b≤1000000000000)(hbm:b≤n+4497)(hs:∀a∈p,We n a)(hb:n≤300000000000000000000):evFn lay0.tab (n+4507) 114 [.p (.agg [.slice 3 (p.map Ac.e)])] []=some (.p (.bool (cw p)),[]):=by
 apply Qa (n+4506) ⟨p.map Ac.e⟩;unfold uF cw;simp only[lβ];by_cases hl:8<(p.length:Int)
 ·rw[cK hl];rfl
 ·rw[vp hl];refine(HO (m:=n) p hz hbb hbm (by omega) hs hb _ _ _ (some (.p (.bool false),[])) (some (.p (.bool true),[])) (fun _=>rfl) (fun _=>rfl) (fun _=>rfl) p.length (n+4506) 0 0 (by omega) (by omega) (by omega) (by omega)).trans ?_;rw[List.drop_zero];cases yw p 0<;>rfl
end
end Go.Ab
end
section
namespace Go.Ab
open Go
set_option maxRecDepth 100000
noncomputable section
theorem Al {n:Nat}(ts:List Ac)(s:List Nat)(h:ts.length<1501):evFn lay0.tab (n+1502) 58 [.p (.agg [.slice 3 (ts.map Ac.e)]),.p (.str s)] []=some (.p (.int .i64 (m8 (ts.findIdx? fun t=>aK t.name s))),[]):=by
 apply Mi (n+1501) ⟨ts.map Ac.e⟩ s;refine(aV ts (fun q i=>j9 _ (n+1501) _ _ q (s,i,⟨ts.map Ac.e⟩)) (fun t=>aK t.name s) (fun i=>some (.p (.int .i64 i),[])) (some (.p (.int .i64 (-1)),[])) (fun q i hi=>?_) (fun q=>?_) (by omega)).trans ?_
 ·rw[rA];simp only[gN,lβ,cK (show((i:Int)<(ts.length:Int)) by omega),aO,aE,aP,aM hi,bf,QE,wS (show i<bZ by unfold bZ;omega),show ∀a:Ac,a.r.Name=a.name from fun _=>rfl];exact dq _ _ _
 ·rw[rA];simp only[gN,lβ,cb,aQ]
 ·cases ts.findIdx? fun t=>aK t.name s<;>rfl
theorem Ft {n:Nat}(a:Ac)(s:List Nat)(h:a.methods.length<1501):evFn lay0.tab (n+1502) 59 [.p a.e,.p (.str s)] []=some (.p (.int .i64 (m8 (a.methods.findIdx? fun t=>aK t.name s))),[]):=by
 apply FG (n+1501) a.r s;refine(aV a.methods (fun q i=>gW _ (n+1501) _ _ q (s,i,a.r)) (fun t=>aK t.name s) (fun i=>some (.p (.int .i64 i),[])) (some (.p (.int .i64 (-1)),[])) (fun q i hi=>?_) (fun q=>?_) (by omega)).trans ?_
 ·rw[oM];simp only[eR,show a.r.Methods=a.methods.map Me.e from rfl,lβ,cK (show((i:Int)<(a.methods.length:Int)) by omega),aO,aE,aP,aM hi,bf,Yy,wS (show i<bZ by unfold bZ;omega),show ∀m:Me,m.r.Name=m.name from fun _=>rfl];exact dq _ _ _
 ·rw[oM];simp only[eR,show a.r.Methods=a.methods.map Me.e from rfl,lβ,cb,aQ]
 ·cases a.methods.findIdx? fun t=>aK t.name s<;>rfl
theorem CF {n:Nat}(a:Ac)(s:List Nat)(h:a.fields.length<1501):evFn lay0.tab (n+1502) 93 [.p a.e,.p (.str s)] []=some (.p (.bool (a.fields.any fun t=>aK t.name s)),[]):=by
 apply Qe (n+1501) a.r s;refine(aV a.fields (fun q i=>ly _ (n+1501) _ _ q (s,i,a.r)) (fun t=>aK t.name s) (fun i=>some (.p (.bool true),[])) (some (.p (.bool false),[])) (fun q i hi=>?_) (fun q=>?_) (by omega)).trans ?_
 ·rw[tV];simp only[jl,show a.r.Fields=a.fields.map Fe.e from rfl,lβ,cK (show((i:Int)<(a.fields.length:Int)) by omega),aO,aE,aP,aM hi,bf,dFe,wS (show i<bZ by unfold bZ;omega),show ∀m:Fe,m.r.Name=m.name from fun _=>rfl];exact dq _ _ _
 ·rw[tV];simp only[jl,show a.r.Fields=a.fields.map Fe.e from rfl,lβ,cb,aQ]
 ·rw[←List.findIdx?_isSome];cases a.fields.findIdx? fun t=>aK t.name s<;>rfl
theorem CG {n:Nat}(m:Me)(k:Nat)(s:List Nat)(hk:k≤m.params.length)(h:m.params.length<1501):evFn lay0.tab (n+1502) 94 [.p m.e,.p (.int .i64 k),.p (.str s)] []=some (.p (.bool ((m.params.take k).any fun t=>aK t.name s)),[]):=by
 apply Qg (n+1501) m.r k s;have hl:(m.params.take k).length=k:=by simp;omega
 refine(aV (m.params.take k) (fun q i=>lz _ (n+1501) _ _ q (k,s,i,m.r)) (fun t=>aK t.name s) (fun i=>some (.p (.bool true),[])) (some (.p (.bool false),[])) (fun q i hi=>?_) (fun q=>?_) (by omega)).trans ?_
 ·rw[tX];simp only[jn,show m.r.Params=m.params.map Pa.e from rfl,lβ,cK (show((i:Int)<(k:Int)) by omega),aO,aE,aP,aM (show i<m.params.length by omega),bf,dPa,wS (show i<bZ by unfold bZ;omega),show ∀m:Pa,m.r.Name=m.name from fun _=>rfl,qι];exact dq _ _ _
 ·rw[tX];simp only[jn,hl,cb,aQ]
 ·rw[←List.findIdx?_isSome];cases(m.params.take k).findIdx? fun t=>aK t.name s<;>rfl
def nb (l:List No):Nat:=(l.filter fun x=>decide (x.op=8)).length
def m9 (l:List No)(s:List Nat):Bool:=l.any fun x=>decide (x.op=8)&&aK x.name s
theorem NL {m:Nat}(ns:List No)(s:List Nat)(b:Nat)(hb:b≤ns.length)(hl:ns.length<1501)(k0:nj→R):∀(e q j:Nat) (c:Nat) (h:Bool),j+e=b→e<q→c≤j→
  L_r19lets_1 (bq lay0.tab m) m k0 q (ns.map No.e,(b:Int),s,(c:Int),h,(j:Int))=k0 (ns.map No.e,(b:Int),s,((c+nb ((ns.take b).drop j):Nat):Int),h||m9 ((ns.take b).drop j) s,(b:Int))
 |0,q+1,j,c,h,hj,_,_=>by
  obtain rfl:j=b:=by omega
  rw[vW];have:(ns.take j).drop j=[]:=qβ (by simp;omega);simp only[kG,cb,aQ,this,nb,m9,List.filter_nil,List.length_nil,List.any_nil,Bool.or_false,Nat.add_zero]
 |e+1,q+1,j,c,h,hj,hq,hc=>by
  have hjl:j<ns.length:=by omega
  have hd:(ns.take b).drop j=ns[j]::(ns.take b).drop (j+1):=by
   rw[lξ (by simp;omega),qι]
  rw[vW,hd];have ih:=fun c h hc=>NL (m:=m) ns s b hb hl k0 e q (j+1) c h (by omega) (by omega) hc
  simp only[kG,cK (show((j:Int)<(b:Int)) by omega),aO,aE,aP,aM hjl,bf,u0,tj,Fq,wS (show j<bZ by unfold bZ;omega),wS (show c<bZ by unfold bZ;omega),aT,ih (c+1) true (by omega),ih (c+1) false (by omega),ih c h (by omega)];by_cases h8:ns[j].op=8
  ·simp only[h8,decide_true,aO,nb,m9,List.filter_cons,if_true,List.length_cons,List.any_cons,Bool.true_and];rw[show c+1+((ns.take b).drop (j+1) |>.filter fun x=>decide (x.op=8)).length=c+(((ns.take b).drop (j+1) |>.filter fun x=>decide (x.op=8)).length+1) by omega];cases h<;>cases aK ns[j].name s<;>rfl
  ·simp only[h8,decide_false,aQ,nb,m9,List.filter_cons,Bool.false_eq_true,if_false,List.any_cons,Bool.false_and,Bool.false_or]
theorem TR {n:Nat}(ns:List No)(b:Nat)(s:List Nat)(hb:b≤ns.length)(hl:ns.length<1501):evFn lay0.tab (n+1502) 132 [.p (.slice 8 (ns.map No.e)),.p (.int .i64 b),.p (.str s)] []=some (.tup [.p (.int .i64 (nb (ns.take b))),.p (.bool (m9 (ns.take b) s))],[]):=by
 apply Uk (n+1501) (ns.map No.e) b s;refine(NL (m:=n+1501) ns s b hb hl _ b (n+1501) 0 0 false (by omega) (by omega) (by omega)).trans ?_;rw[List.drop_zero,Nat.zero_add,Bool.false_or];cases m9 (ns.take b) s<;>rfl
def kE (f:Nat)(ns:List No)(i:Int)(o:Option Int):Bool:=match o with|some k=>decide (k<i)&&ju f ns k|none=>false
def agS (f:Nat)(ns:List No)(i:Int)(x:No):Bool:=if x.op=13 then true else if x.op=14 then true else if x.op=11 then(decide (x.kids.length=3)&&(kE f ns i x.kids[1]?&&kE f ns i x.kids[2]?))else if x.op=18 then kE f ns i x.kids.getLast? else false
theorem abT {f:Nat}{ns:List No}{i:Int}{x:No}(h:jI ns i=some x):ju (f+1) ns i=agS f ns i x:=by
 simp only[ju,h];rfl
theorem GI {n:Nat}(ns:List No)(hk:∀(i:Nat) x,ns[i]?=some x→fh i x.kids)(hkl:∀x∈ns,x.kids.length<1501):∀(f i:Nat),i<f→i<ns.length→evFn lay0.tab (n+f) 133 [.p (.slice 8 (ns.map No.e)),.p (.int .i64 i)] []=some (.p (.bool (ju f ns i)),[])
 |0,i,h,_=>by omega
 |f+1,i,h,hi=>by
  have hx:ns[i]?=some ns[i]:=lγ hi;have hki:=hk i _ hx;have hkx:=hkl ns[i] (lι _);show evFn lay0.tab (n+f+1) _ _ _=_;apply Uj (n+f) (ns.map No.e) i;have rec_:∀k∈ns[i].kids,(∀K:KV,bq lay0.tab (n+f) 133 [.p (.slice 8 (ns.map No.e)),.p (.int .i64 k)] [] K=K (.p (.bool (ju f ns k))) [])∧decide (k<(i:Int))=true:=fun k hm=>by
   obtain⟨g1,g2⟩:=hki k hm;obtain⟨j,rfl⟩:∃j:Nat,k=(j:Int):=⟨k.toNat,by omega⟩
   exact⟨aa (GI (n:=n) ns hk hkl f j (by omega) (by omega)),by simpa using g2⟩
  unfold yH;rw[abT (aM hi)];unfold agS;simp only[aE,aP,aM hi,bf,u0,tj,pF,lβ,aT];by_cases o13:ns[i].op=13
  ·simp only[o13,decide_true,aO,if_true]
  by_cases o14:ns[i].op=14
  ·simp only[o14,decide_true,decide_false,aO,aQ,if_true,if_false,Int.reduceEq]
  by_cases o11:ns[i].op=11
  ·simp only[o11,decide_true,decide_false,aO,aQ,if_true,if_false,Int.reduceEq];match hks:ns[i].kids with
   |[a,b,c]=>
    obtain⟨r1,d1⟩:=rec_ b (by rw[hks];simp);obtain⟨r2,d2⟩:=rec_ c (by rw[hks];simp);simp only[nR,show jI [a,b,c] 1=some b from rfl,show jI [a,b,c] 2=some c from rfl,bf,dI,r1,r2,d1,d2,ba,aD,aC,List.length_cons,List.length_nil,Nat.zero_add,Nat.reduceAdd,Int.cast_ofNat_Int,decide_true,aO,bt,dH,gm,Bool.true_and,Bool.and_true,List.getElem?_cons_succ,List.getElem?_cons_zero,kE]
   |[]=>rfl
   |[_]=>rfl
   |[_,_]=>rfl
   |a::b::c::d::r=>
    have z:¬(((a::b::c::d::r).length:Int)=3):=by simp;omega
    have z':¬((a::b::c::d::r).length=3):=by simp
    simp only[z,z',decide_false,aQ,Bool.false_and]
  by_cases o18:ns[i].op=18
  ·simp only[o18,decide_true,decide_false,aO,aQ,if_true,if_false,Int.reduceEq];cases hks:ns[i].kids with
   |nil=>rfl
   |cons a r=>
    have hw:ag .i64 (((a::r).length:Int) - 1)=((r.length:Nat):Int):=by
     have:(a::r).length<1501:=by rw[←hks];exact hkx
     simp at this ⊢
     rw[iD (by omega) (by omega)]
    have hlast:(a::r).getLast?=some ((a::r)[r.length]'(by simp)):=by
     rw[List.getLast?_eq_getElem?];simp
    obtain⟨r1,d1⟩:=rec_ ((a::r)[r.length]'(by simp)) (by rw[hks];exact lι _);rw[hlast];simp only[cK (show(0:Int)<((a::r).length:Int) by simp),aO,hw,aE,aP,aM (show r.length<(a::r).length by simp),bf,nR,dI,r1,d1,ba,aD,aC,bt,dH,Bool.true_and,cond_true,kE]
  simp only[o13,o14,o11,o18,decide_false,aQ,if_false]
def af2 (s:List Nat)(x y:Int):Int:=bif(DH s x y).2 then(DH s x y).1 else -2
end
end Go.Ab
end
section
namespace Go.Ab
open Go
set_option maxRecDepth 100000
noncomputable section
def rB1 (x:Int):Int:=bif aw x 1 then 2 else bif aw x 3 then 2 else -2
def rB2 (x:Int):Int:=bif aw x 1 then 1 else -2
def rB3 (x:Int):Int:=bif aw x 2 then 2 else -2
def rBi (s:List Nat)(x y:Int):Int:=bif !aw x y then -2 else bif aK s [43]then(bif aw x 1 then x else bif aw x 3 then x else -2)else bif aK s [45]then rB2 x else bif aK s [42]then rB2 x else bif aK s [47]then rB2 x else bif aK s [37]then rB2 x else bif aK s [61,61]then 2 else bif aK s [33,61]then 2 else bif aK s [60]then rB1 x else bif aK s [60,61]then rB1 x else bif aK s [62]then rB1 x else bif aK s [62,61]then rB1 x else bif aK s [38,38]then rB3 x else bif aK s [124,124]then rB3 x else -2
theorem LB {n:Nat}(s:List Nat)(x y:Int):evFn lay0.tab (n+1) 130 [.p (.str s),.p (.int .i64 x),.p (.int .i64 y)] []=some (.p (.int .i64 (rBi s x y)),[]):=by
 apply Mg n s x y;simp only[q8,gE,gH,Js,rBi,rB1,rB2,rB3]
theorem af1 {s:List Nat}(h:binO.any (fun t=>aK s t)=true)(x y:Int):rBi s x y=af2 s x y:=by
 unfold af2;have e:aw x y=true→x=y:=by rw[aT];exact of_decide_eq_true
 simp only[binO,List.any_cons,List.any_nil,Bool.or_false,mψ]at h;rcases h with h|h|h|h|h|h|h|h|h|h|h|h|h<;>(rw[dn]at h;have:=of_decide_eq_true h;subst this;cases hxy:aw x y<;>simp[rBi,DH,rB1,rB2,rB3,hxy,aK]<;>(try (cases aw x 1<;>cases aw x 2<;>cases aw x 3<;>rfl)))
def lc (k:Int):Nat:=bif aw k 1 then 105 else bif aw k 2 then 98 else bif aw k 3 then 115 else bif aw k 4 then 73 else bif aw k 5 then 83 else 117
def kL (k:Int):Int:=bif aw k 1 then 2 else bif aw k 2 then 1 else bif aw k 3 then 3 else bif aw k 4 then 4 else bif aw k 5 then 5 else 0
theorem Bc {n:Nat}(k:Int):evFn lay0.tab (n+1) 237 [.p (.int .i64 k)] []=some (.p (.int .i64 (kL k)),[]):=by
 apply Bl n k;simp only[k9,Js,kL]
def zP:List Int→Nat→List Nat→List Nat
 |[],_,acc=>acc
 |k::r,j,acc=>bif aW (j:Int) 4 then(bif aW k 0 then[63]else bif aW 5 k then[63]else zP r (j+1) (acc++[lc k]))else acc
theorem ag6 (k:Int):∃j:Nat,kL k=(j:Int)∧j≤5∧List.take ((j+1) - j) (List.drop j [117,98,105,115,73,83])=[lc k]:=by
 unfold kL lc;cases aw k 1<;>cases aw k 2<;>cases aw k 3<;>cases aw k 4<;>cases aw k 5<;>first|exact⟨0,rfl,by decide,rfl⟩|exact⟨1,rfl,by decide,rfl⟩|exact⟨2,rfl,by decide,rfl⟩|exact⟨3,rfl,by decide,rfl⟩|exact⟨4,rfl,by decide,rfl⟩|exact⟨5,rfl,by decide,rfl⟩
theorem NO {m:Nat}(ks:List Int)(hl:ks.length<1501)(k0:LN→R)(k1:LD×LN×Int→R)(W:LN→R)(hk0:∀s,k0 s=W s)(hk1:∀a s b,k1 (a,s,b)=W s):∀(e q j:Nat) (acc:List Nat),j+e=ks.length→e<q→acc.length≤j→
  L_r19letters_1 (bq lay0.tab (m+1)) (m+1) k0 k1 q (ks.map iE,acc,(j:Int))=W (zP (ks.drop j) j acc)
 |0,q+1,j,acc,h,_,_=>by
  obtain rfl:j=ks.length:=by omega
  rw[qF];simp only[fI,lβ,cb,aQ,List.drop_length,zP,hk1]
 |e+1,q+1,j,acc,h,hq,ha=>by
  have hj:j<ks.length:=by omega
  obtain⟨w,g1,g2,g3⟩:=ag6 ks[j];have e1:∀K:KV,bq lay0.tab (m+1) 237 [.p (.int .i64 ks[j])] [] K=K (.p (.int .i64 (w:Int))) []:=fun K=>by
   rw[aa (Bc (n:=m) ks[j]),g1]
  have hw:ag .i64 ((w:Int)+1)=((w+1:Nat):Int):=wBr (by omega);rw[qF,lξ hj];simp only[fI,lβ,cK (show((j:Int)<(ks.length:Int)) by omega),aO,aE,aP,aM hj,bf,dI,e1,ba,bF,aC,hw,bJ,show(0:Int)≤((w+1:Nat):Int) by omega,show((w+1:Nat):Int)≤(([117,98,105,115,73,83]:List Nat).length:Int) by simp;omega,show(0:Int)≤(w:Int) by omega,show(w:Int)≤((w+1:Nat):Int) by omega,decide_true,Int.toNat_natCast,g3,wS (show j<bZ by unfold bZ;omega),zP,hk0,hk1];have hb:Nat.ble (acc.length+([lc ks[j]]:List Nat).length) qy=true:=by rw[Nat.ble_eq];unfold qy;simp;omega
  simp only[hb,aO];cases aW (j:Int) 4
  ·rfl
  ·cases aW ks[j] 0
   ·cases aW 5 ks[j]
    ·exact NO ks hl k0 k1 W hk0 hk1 e q (j+1) (acc++[lc ks[j]]) (by omega) (by omega) (by simp;omega)
    ·rfl
   ·rfl
theorem H3 {n:Nat}(ks:List Int)(hl:ks.length<1501):evFn lay0.tab (n+1503) 185 [.p (.slice 1 (ks.map iE))] []=some (.p (.str (zP ks 0 [])),[]):=by
 apply IM (n+1502) (ks.map iE);exact NO (m:=n+1501) ks hl _ _ (fun s=>some (.p (.str s),[])) (fun _=>rfl) (fun _ _ _=>rfl) ks.length (n+1502) 0 [] (by omega) (by omega) (by simp)
theorem JZ:∀(r:List Int) (j:Nat) (acc:List Nat),zP r j acc=[63]∨∃t,zP r j acc=acc++t
 |[],j,acc=> .inr ⟨[],by simp[zP]⟩
 |k::r,j,acc=>by
  simp only[zP];cases aW (j:Int) 4
  ·exact .inr ⟨[],by simp⟩
  ·cases aW k 0
   ·cases aW 5 k
    ·rcases JZ r (j+1) (acc++[lc k])with h|⟨t,h⟩
     ·exact .inl h
     ·exact .inr ⟨lc k::t,by simp only[cond_true,cond_false];rw[h];simp⟩
    ·exact .inl rfl
   ·exact .inl rfl
theorem adR (k:Int):lc k≠63:=by
 unfold lc;cases aw k 1<;>cases aw k 2<;>cases aw k 3<;>cases aw k 4<;>cases aw k 5<;>decide
theorem afA {k p:Int}(h0:0≤k)(h5:k≤5)(p1:1≤p)(p5:p≤5)(h:lc k=lc p):k=p:=by
 have a:k=0∨k=1∨k=2∨k=3∨k=4∨k=5:=by omega
 have b:p=1∨p=2∨p=3∨p=4∨p=5:=by omega
 rcases a with rfl|rfl|rfl|rfl|rfl|rfl<;>rcases b with rfl|rfl|rfl|rfl|rfl<;>first|rfl|(exact absurd h (by decide))
theorem ZG:∀(ks P:List Int) (j:Nat) (acc:List Nat),j+P.length≤3→63∉acc→(∀p∈P,1≤p∧p≤5)→(zP ks j acc=acc++P.map lc↔ks=P)
 |[],P,j,acc,_,_,_=>by
  simp only[zP];constructor
  ·intro h;have:=congrArg List.length h;simp at this;rw[this]
  ·rintro rfl;simp
 |k::r,P,j,acc,hj,ha,hP=>by
  have h63:∀Q:List Int,[63]≠acc++Q.map lc:=by
   intro Q h;have:63∈acc++Q.map lc:=by rw[←h];simp
   rcases mρ.1 this with h|h
   ·exact ha h
   ·obtain⟨p,_,hp⟩:=List.mem_map.1 h;exact adR p hp
  have hj4:aW (j:Int) 4=true:=cK (by omega);simp only[zP,hj4,cond_true];by_cases h0:k<0
  ·rw[cK h0,cond_true];refine⟨fun h=>absurd h (h63 P),?_⟩
   rintro rfl
   have:=(hP k (lτ ..)).1;omega
  ·rw[vp h0,cond_false];by_cases h5:5<k
   ·rw[cK h5,cond_true];refine⟨fun h=>absurd h (h63 P),?_⟩
    rintro rfl
    have:=(hP k (lτ ..)).2;omega
   ·rw[vp h5,cond_false];cases P with
    |nil=>
     constructor
     ·intro h;rcases JZ r (j+1) (acc++[lc k])with g|⟨t,g⟩
      ·rw[g]at h;exact absurd h (h63 [])
      ·rw[g]at h;have:=congrArg List.length h;simp at this
     ·intro h;cases h
    |cons p P=>
     simp only[List.length_cons]at hj;have hp:=hP p (lτ ..);by_cases hkp:k=p
     ·subst hkp;have ih:=ZG r P (j+1) (acc++[lc k]) (by omega) (by
       intro h;rcases mρ.1 h with h|h
       ·exact ha h
       ·exact adR k (List.mem_singleton.1 h).symm) fun p h=>hP p (lχ _ h)
      rw[mν,List.singleton_append]at ih;rw[List.map_cons,ih];simp
     ·constructor
      ·intro h;rcases JZ r (j+1) (acc++[lc k])with g|⟨t,g⟩
       ·rw[g]at h;exact absurd h (h63 (p::P))
       ·rw[g,mν]at h;have:=List.append_cancel_left h;simp only[List.map_cons,List.singleton_append,lκ]at this;exact absurd (afA (by omega) (by omega) hp.1 hp.2 this.1) hkp
      ·intro h;simp only[lκ]at h;exact absurd h.1 hkp
theorem afH (ks P:List Int)(hl:P.length≤3)(hP:∀p∈P,1≤p∧p≤5):aK (zP ks 0 []) (P.map lc)=decide (ks=P):=by
 rw[dn];have:=ZG ks P 0 [] (by omega) (by simp) hP;rw[List.nil_append]at this;exact decide_eq_decide.2 this
theorem GJ {n:Nat}(ks:List Int)(el kd:Int)(hl:ks.length<1501):evFn lay0.tab (n+1502) 186 [.p (.slice 1 (ks.map iE)),.p (.int .i64 el),.p (.int .i64 kd)] []=some (.p (.int .i64 (bif ks.all (fun k=>aw k el)then kd else -2)),[]):=by
 apply Ul (n+1501) (ks.map iE) el kd;refine(aV ks (fun q i=>nA _ (n+1501) _ _ q (ks.map iE,el,kd,i)) (fun k=>!aw k el) (fun i=>some (.p (.int .i64 (-2)),[])) (some (.p (.int .i64 kd),[])) (fun q i hi=>?_) (fun q=>?_) (by omega)).trans ?_
 ·rw[vX];simp only[kH,lβ,cK (show((i:Int)<(ks.length:Int)) by omega),aO,aE,aP,aM hi,bf,dI,wS (show i<bZ by unfold bZ;omega)];exact dq _ _ _
 ·rw[vX];simp only[kH,lβ,cb,aQ]
 ·rw[f4];cases ks.findIdx? fun k=>!aw k el<;>rfl
def OA (s:List Nat)(ks:List Int):Int:=bif aK s [108,101,110]then(bif decide (ks=[3])then 1 else bif decide (ks=[4])then 1 else bif decide (ks=[5])then 1 else -2)else bif aK s [97,116]then(bif decide (ks=[4,1])then 1 else bif decide (ks=[5,1])then 3 else -2)else bif aK s [97,112,112,101,110,100]then(bif decide (ks=[4,1])then 4 else bif decide (ks=[5,3])then 5 else -2)else bif aK s [115,101,116]then(bif decide (ks=[4,1,1])then 4 else bif decide (ks=[5,1,3])then 5 else -2)else bif aK s [115,116,114]then(bif decide (ks=[1])then 3 else -2)else bif aK s [105,110,116,115]then(bif ks.all (fun k=>aw k 1)then 4 else -2)else bif aK s [115,116,114,105,110,103,115]then(bif ks.all (fun k=>aw k 3)then 5 else -2)else -1
theorem H2 {n:Nat}(s:List Nat)(ks:List Int)(hl:ks.length<1501):evFn lay0.tab (n+1504) 131 [.p (.str s),.p (.slice 1 (ks.map iE))] []=some (.p (.int .i64 (OA s ks)),[]):=by
 apply IL (n+1503) s (ks.map iE);have e1:=aa (H3 (n:=n) ks hl);have e2:=aa (GJ (n:=n+1) ks 1 4 hl);have e3:=aa (GJ (n:=n+1) ks 3 5 hl);have p (P:List Int) (hl:P.length≤3) (hP:∀p∈P,1≤p∧p≤5):=afH ks P hl hP;have l1:=p [3] (by decide) (by decide);have l2:=p [4] (by decide) (by decide);have l3:=p [5] (by decide) (by decide);have l4:=p [4,1] (by decide) (by decide);have l5:=p [5,1] (by decide) (by decide);have l6:=p [5,3] (by decide) (by decide);have l7:=p [4,1,1] (by decide) (by decide);have l8:=p [5,1,3] (by decide) (by decide);have l9:=p [1] (by decide) (by decide);simp only[List.map_cons,List.map_nil,show lc 1=105 from rfl,show lc 3=115 from rfl,show lc 4=73 from rfl,show lc 5=83 from rfl]at l1 l2 l3 l4 l5 l6 l7 l8 l9;simp only[pL,e1,e2,e3,ba,aeZ,bF,aC,l1,l2,l3,l4,l5,l6,l7,l8,l9,Js,OA]
theorem af3 (s:List Nat)(ks:List Int):((fQ s ks).2=0↔¬OA s ks<0)∧((fQ s ks).2=0→OA s ks=(fQ s ks).1):=by
 by_cases h0:s=[108,101,110]
 ·subst h0;by_cases a0:ks=[3]
  ·subst a0;decide
  by_cases a1:ks=[4]
  ·subst a1;decide
  by_cases a2:ks=[5]
  ·subst a2;decide
  simp[fQ,OA,Ph,GF,dn,a0,show ¬[3]=ks from fun e=>a0 e.symm,a1,show ¬[4]=ks from fun e=>a1 e.symm,a2,show ¬[5]=ks from fun e=>a2 e.symm]
 by_cases h1:s=[97,116]
 ·subst h1;by_cases a0:ks=[4,1]
  ·subst a0;decide
  by_cases a1:ks=[5,1]
  ·subst a1;decide
  simp[fQ,OA,Ph,GF,dn,a0,show ¬[4,1]=ks from fun e=>a0 e.symm,a1,show ¬[5,1]=ks from fun e=>a1 e.symm]
 by_cases h2:s=[97,112,112,101,110,100]
 ·subst h2;by_cases a0:ks=[4,1]
  ·subst a0;decide
  by_cases a1:ks=[5,3]
  ·subst a1;decide
  simp[fQ,OA,Ph,GF,dn,a0,show ¬[4,1]=ks from fun e=>a0 e.symm,a1,show ¬[5,3]=ks from fun e=>a1 e.symm]
 by_cases h3:s=[115,101,116]
 ·subst h3;by_cases a0:ks=[4,1,1]
  ·subst a0;decide
  by_cases a1:ks=[5,1,3]
  ·subst a1;decide
  simp[fQ,OA,Ph,GF,dn,a0,show ¬[4,1,1]=ks from fun e=>a0 e.symm,a1,show ¬[5,1,3]=ks from fun e=>a1 e.symm]
 by_cases h4:s=[115,116,114]
 ·subst h4;by_cases a0:ks=[1]
  ·subst a0;decide
  simp[fQ,OA,Ph,GF,dn,a0,show ¬[1]=ks from fun e=>a0 e.symm]
 by_cases h5:s=[105,110,116,115]
 ·subst h5;cases ha:ks.all fun k=>aw k 1<;>simp[fQ,OA,dn,ha]
 by_cases h6:s=[115,116,114,105,110,103,115]
 ·subst h6;cases ha:ks.all fun k=>aw k 3<;>simp[fQ,OA,dn,ha]
 simp[fQ,OA,Ph,GF,dn,h0,h1,h2,h3,h4,h5,h6]
theorem TV {n:Nat}(ks:List Int)(i:Int)(hl:ks.length<1501):evFn lay0.tab (n+1502) 187 [.p (.slice 1 (ks.map iE)),.p (.int .i64 i)] []=some (.p (.int .i64 (m8 (ks.findIdx? fun k=>aw k i))),[]):=by
 apply Uq (n+1501) (ks.map iE) i;refine(aV ks (fun q j=>nD _ (n+1501) _ _ q (ks.map iE,i,j)) (fun k=>aw k i) (fun j=>some (.p (.int .i64 j),[])) (some (.p (.int .i64 (-1)),[])) (fun q j hj=>?_) (fun q=>?_) (by omega)).trans ?_
 ·rw[wa];simp only[kK,lβ,cK (show((j:Int)<(ks.length:Int)) by omega),aO,aE,aP,aM hj,bf,dI,wS (show j<bZ by unfold bZ;omega)];exact dq _ _ _
 ·rw[wa];simp only[kK,lβ,cb,aQ]
 ·cases ks.findIdx? fun k=>aw k i<;>rfl
end
end Go.Ab
end
section
namespace Go.Ab
open Go
set_option maxRecDepth 100000
noncomputable section
theorem Py {n:Nat}(a b:Ac):evFn lay0.tab (n+1) 85 [.p a.e,.box 0 0] [b.r.b]=some (.p (.bool (decide (a.name=b.name))),[b.r.b]):=by
 apply P5 n a.r b.r;unfold uB;show iL (aK a.name b.name) _ _=_;rw[dn];cases decide (a.name=b.name)<;>rfl
theorem Pz {n:Nat}(a b:Me):evFn lay0.tab (n+1) 87 [.p a.e,.box 0 0] [b.r.b]=some (.p (.bool (decide (a.name=b.name))),[b.r.b]):=by
 apply P6 n a.r b.r;unfold uC;show iL (aK a.name b.name) _ _=_;rw[dn];cases decide (a.name=b.name)<;>rfl
theorem adO (o:Option Nat):bu 0 (m8 o)=o.isSome:=by cases o<;>simp[m8,bJ]
theorem Wu {n:Nat}(ts:List Ac)(y:Ac)(h:ts.length<1501):evFn lay0.tab (n+1504) 46 [.p (.slice 3 (ts.map Ac.e)),.fn 85 [.box 0 0]] [y.r.b]=some (.p (.bool (ts.any fun t=>decide (t.name=y.name))),[y.r.b]):=by
 have hi:evFn lay0.tab (n+1503) 81 [.p (.slice 3 (ts.map Ac.e)),.fn 85 [.box 0 0]] [y.r.b]=some (.p (.int .i64 (m8 (ts.findIdx? fun t=>decide (t.name=y.name)))),[y.r.b]):=by
  apply Qi (n+1502) (ts.map Ac.e) y.r;unfold uL;rw[lβ];refine(aV ts (fun q i=>lB _ (n+1502) _ _ q (ts.map Ac.e,(ts.length:Int),i,y.r)) (fun t=>decide (t.name=y.name)) (fun i=>some (.p (.int .i64 i),[y.r.b])) (some (.p (.int .i64 (-1)),[y.r.b])) (fun q i hi=>?_) (fun q=>?_) (by omega)).trans ?_
  ·rw[t4];simp only[jp,cK (show((i:Int)<(ts.length:Int)) by omega),aO,aE,aP,aM hi,bf,QE,wS (show i<bZ by unfold bZ;omega)];have:=Py (n:=n+1501) ts[i] y;simp only[Ac.e]at this;simp only[aa this,ba,aD,bG];exact dq _ _ _
  ·rw[t4];simp only[jp,cb,aQ]
  ·cases ts.findIdx? fun t=>decide (t.name=y.name)<;>rfl
 apply WQ (n+1503) (ts.map Ac.e) y.r;unfold CY;simp only[aa hi,ba,bF,bG,adO];rw[List.findIdx?_isSome];cases ts.any (fun t=>decide (t.name=y.name))<;>rfl
theorem Ws {n:Nat}(ts:List Me)(y:Me)(h:ts.length<1501):evFn lay0.tab (n+1504) 86 [.p (.slice 4 (ts.map Me.e)),.fn 87 [.box 0 0]] [y.r.b]=some (.p (.bool (ts.any fun t=>decide (t.name=y.name))),[y.r.b]):=by
 have hi:evFn lay0.tab (n+1503) 90 [.p (.slice 4 (ts.map Me.e)),.fn 87 [.box 0 0]] [y.r.b]=some (.p (.int .i64 (m8 (ts.findIdx? fun t=>decide (t.name=y.name)))),[y.r.b]):=by
  apply Qh (n+1502) (ts.map Me.e) y.r;unfold uK;rw[lβ];refine(aV ts (fun q i=>lA _ (n+1502) _ _ q (ts.map Me.e,(ts.length:Int),i,y.r)) (fun t=>decide (t.name=y.name)) (fun i=>some (.p (.int .i64 i),[y.r.b])) (some (.p (.int .i64 (-1)),[y.r.b])) (fun q i hi=>?_) (fun q=>?_) (by omega)).trans ?_
  ·rw[tZ];simp only[jo,cK (show((i:Int)<(ts.length:Int)) by omega),aO,aE,aP,aM hi,bf,Yy,wS (show i<bZ by unfold bZ;omega)];have:=Pz (n:=n+1501) ts[i] y;simp only[Me.e]at this;simp only[aa this,ba,aD,bG];exact dq _ _ _
  ·rw[tZ];simp only[jo,cb,aQ]
  ·cases ts.findIdx? fun t=>decide (t.name=y.name)<;>rfl
 apply WO (n+1503) (ts.map Me.e) y.r;unfold CW;simp only[aa hi,ba,bF,bG,adO];rw[List.findIdx?_isSome];cases ts.any (fun t=>decide (t.name=y.name))<;>rfl
def Bt:List (List Nat×Vr)→List Fe→Nat→Option (List (List Nat×Vr))
 |acc,[],_=>some acc
 |acc,x::r,k=>match cY acc x.name with
  |some _=>none
  |none=>Bt (ne acc x.name ⟨x.kind,k,true⟩) r (k+1)
inductive An where
 |bad (t m n e:Int)
 |good (bs:List (List CS))
def BF (f:Nat)(p:List Ac)(fs:List (List Nat×Vr))(i:Nat)(all:List Me):List Me→Nat→List CS→Option (An ⊕ List CS)
 |[],_,acc=>some (.inr acc)
 |m::r,j,acc=>if((all.take j).any fun x=>decide (x.name=m.name))=true then some (.inl (.bad i j (-1) 7))else match oy f p fs m with
  |none=>none
  |some none=>some (.inl (.bad i j (-1) 7))
  |some (some c)=>if c.er=0 then BF f p fs i all r (j+1) (acc++[c])else some (.inl (.bad i j c.nd c.er))
def B0 (f:Nat)(p:List Ac):List Ac→Nat→List (List CS)→Option An
 |[],_,acc=>some (.good acc)
 |a::r,j,acc=>if((p.take j).any fun x=>decide (x.name=a.name))=true then some (.bad j (-1) (-1) 7)else match Bt [] a.fields 0 with
  |none=>some (.bad j (-1) (-1) 7)
  |some fs=>match BF f p fs j a.methods a.methods 0 []with
   |none=>none
   |some (.inl e)=>some e
   |some (.inr b)=>B0 f p r (j+1) (acc++[b])
def plD (t m n:Int):Da:= .agg [.int .i64 t,.int .i64 m,.int .i64 n]
def rZ (p:List Ac)(bs:List (List CS)):oL:=⟨p.map Ac.e,bs.length,bs.map fun l=> .slice 3 (l.map eY)⟩
def UI (p:List Ac):An→R
 | .bad t m n e=>some (.tup [.p .nilptr,.p (plD t m n),.p (.int .i64 e)],[])
 | .good bs=>some (.tup [.box 0 0,.p (plD 0 0 0),.p (.int .i64 0)],(rZ p bs).hp)
theorem Nh {m:Nat}(ti tl:Int)(ty:LD)(fl:List Fe)(P:af)(I:oL)(A:ae)(k0:af×Int×oL×ae×LD×LD×bI×bv→R)(k1:Int×LD×Int×Int×LD×Int×Int×Bool×af×oL×ae×LD×LD→R)(Z:R)(hk0:∀a b c d,k0 (P,ti,I,A,a,b,c,d)=Z)(hl:fl.length<1501):∀(e q j:Nat) (acc:List (List Nat×Vr)),j+e=fl.length→e<q→
  L_Analyze_2 (bq lay0.tab m) m k0 k1 q (ti,ty,tl,ti,fl.map Fe.e,(fl.length:Int),(j:Int),P,I,A,acc.map (fun p=> .str p.1),acc.map (fun p=>p.2.e))=match Bt acc (fl.drop j) j with
   |none=>Z
   |some fs=>k1 (ti,ty,tl,ti,fl.map Fe.e,(fl.length:Int),(fl.length:Int),false,P,I,A,fs.map (fun p=> .str p.1),fs.map (fun p=>p.2.e))
 |0,q+1,j,acc,h,_=>by
  obtain rfl:j=fl.length:=by omega
  rw[vS];simp only[kA,cb,aQ,List.drop_length,Bt]
 |e+1,q+1,j,acc,h,hq=>by
  have hj:j<fl.length:=by omega
  rw[vS,lξ hj];have hn:fl[j].r.Name=fl[j].name:=rfl;have hkd:fl[j].r.Kind=fl[j].kind:=rfl;simp only[kA,cK (show((j:Int)<(fl.length:Int)) by omega),aO,aE,aP,aM hj,bf,dFe,wS (show j<bZ by unfold bZ;omega),hn,hkd,Bt];rw[lkS];cases hg:cY acc fl[j].name with
  |some v=>simp only[VC,dVr,hk0]
  |none=>
   simp only[ZH];refine Eq.trans (upS acc fl[j].name Vr.e ⟨fl[j].kind,(j:Int),true⟩ fun a b=>L_Analyze_2 (bq lay0.tab m) m k0 k1 q (ti,ty,tl,ti,fl.map Fe.e,(fl.length:Int),((j+1:Nat):Int),P,I,A,a,b)) ?_
   exact Nh ti tl ty fl P I A k0 k1 Z hk0 hl e q (j+1) _ (by omega) (by omega)
structure SzM (m:Me):Prop where
 ns:m.nodes.length<1501
 ks:∀x∈m.nodes,x.kids.length<1501
 ps:m.params.length<1501
structure SzP (p:List Ac):Prop where
 ty:p.length<1501
 me:∀a∈p,a.methods.length<1501
 fl:∀a∈p,a.fields.length<1501
 mm:∀a∈p,∀m∈a.methods,SzM m
theorem NQ {f n:Nat}(p:List Ac)(hp:SzP p)(ti:Nat)(tl:Int)(ty:LD)(a:Ac)(ha:a∈p)(fs:List (List Nat×Vr))(I:oL)(k0:af×Int×Int×oL×ae×LD×ah→R)(k1:Int×af×bo×oL×ae×LD×ah×dC→R)(k2:Int×LD×LD×Nat×LD×Int×Int×LD×Int×Int×Bool×af×oL×ae×LD→R)
  (hk0:∀a b c d e f g,k0 (a,b,c,d,e,f,g)=UI p (.bad b c (-1) 7)) (hk1:∀a b c d e f g h,k1 (a,b,c,d,e,f,g,h)=UI p (.bad c.Type_ c.Method c.Node a)):∀(e q j:Nat) (acc:List CS) (o:An ⊕ List CS),j+e=a.methods.length→e<q→acc.length≤j→BF f p fs ti a.methods (a.methods.drop j) j acc=some o→
  L_Analyze_3 (bq lay0.tab (n+3*f+4504)) (n+3*f+4504) k0 k1 k2 q ((ti:Int),fs.map (fun p=> .str p.1),fs.map (fun p=>p.2.e),acc.length,ty,tl,(ti:Int),a.methods.map Me.e,(a.methods.length:Int),(j:Int),⟨p.map Ac.e⟩,I,a.r,acc.map eY)=match o with
   | .inl e=>UI p e
   | .inr l=>k2 ((ti:Int),fs.map (fun p=> .str p.1),fs.map (fun p=>p.2.e),l.length,ty,tl,(ti:Int),a.methods.map Me.e,(a.methods.length:Int),(a.methods.length:Int),false,⟨p.map Ac.e⟩,I,a.r,l.map eY)
 |0,q+1,j,acc,o,h,_,hac,hm=>by
  obtain rfl:j=a.methods.length:=by omega
  rw[List.drop_length]at hm;simp only[BF,lα]at hm;subst hm;rw[vT];simp only[kC,cb,aQ]
 |e+1,q+1,j,acc,o,h,hq,hac,hm=>by
  have hj:j<a.methods.length:=by omega
  have hml:=hp.me a ha;rw[lξ hj]at hm;simp only[BF]at hm;rw[vT];have hlm:(List.length a.r.Methods:Int)=a.methods.length:=by show((a.methods.map Me.e).length:Int)=_;rw[lβ]
  have htk:List.take (Int.toNat (j:Int) - 0) (List.drop 0 a.r.Methods)=(a.methods.take j).map Me.e:=by
   rw[List.drop_zero,Nat.sub_zero,Int.toNat_natCast,List.map_take];rfl
  simp only[kC,cK (show((j:Int)<(a.methods.length:Int)) by omega),aO,aE,aP,aM hj,bf,Yy,wS (show j<bZ by unfold bZ;omega),bJ,hlm,show(0:Int)≤(j:Int) by omega,decide_true,show(j:Int)≤(a.methods.length:Int) by omega,htk];obtain⟨n1,hn1⟩:∃n1,n+3*f+4504=n1+1504:=⟨n+3*f+3000,by omega⟩
  have hc:=Ws (n:=n1) (a.methods.take j) a.methods[j] (by simp;omega);rw[←hn1]at hc;simp only[aa hc,ba,aD,bG];cases hd:(a.methods.take j).any fun x=>decide (x.name=a.methods[j].name)
  ·rw[hd]at hm;simp only[Bool.false_eq_true,if_false]at hm;rw[aQ];have sm:=hp.mm a ha _ (lι hj);have run:∀o1,oy f p fs a.methods[j]=some o1→evFn lay0.tab (n+3*f+4504) 88 [.p (af.e ⟨p.map Ac.e⟩),.p (.map (fs.map fun p=> .str p.1) (fs.map fun p=>p.2.e)),.p a.methods[j].r.e] []=some (U1 o1,[]):=fun o1 h1=>aax p fs a.methods[j] o1 h1 hp.ty hp.me sm.ns sm.ks sm.ps
   cases hck:oy f p fs a.methods[j]with
   |none=>rw[hck]at hm;cases hm
   |some o1=>
    rw[hck]at hm;rw[aa (run o1 hck)];cases o1 with
    |none=>
     simp only[lα]at hm;subst hm;exact hk1 7 ⟨p.map Ac.e⟩ ⟨ti,j,-1⟩ I a.r (acc.map eY) a.methods[j].r ⟨[],.nilmap,.nilmap⟩
    |some c=>
     simp only at hm;show iL (!aw c.er 0) _ _=_;rw[aT,cr];by_cases h0:c.er=0
     ·rw[if_pos h0]at hm ⊢
      have hb1:Nat.beq acc.length (acc.map eY).length=true:=by simp
      have hb2:dW ((acc.map eY).length+[eY c].length) 40=true:=qh (by simp;omega) (by decide);have key:=NQ (n:=n) p hp ti tl ty a ha fs I k0 k1 k2 hk0 hk1 e q (j+1) (acc++[c]) o (by omega) (by omega) (by simp;omega) hm;rw[←key];show iL (Nat.beq acc.length (acc.map eY).length) (iL (dW ((acc.map eY).length+[eY c].length) 40) _ _) _=_;rw[hb1,hb2,aO,aO];have hap:acc.map eY++[eY c]=(acc++[c]).map eY:=by simp
      show L_Analyze_3 _ _ k0 k1 k2 q (_,_,_,List.length (acc.map eY++[eY c]),_,_,_,_,_,_,_,_,_,acc.map eY++[eY c])=_;rw[hap,lβ]
     ·rw[if_neg h0]at hm ⊢
      simp only[lα]at hm;subst hm;exact hk1 c.er ⟨p.map Ac.e⟩ ⟨ti,j,c.nd⟩ I a.r (acc.map eY) a.methods[j].r _
  ·rw[hd]at hm;simp only[if_true,lα]at hm;subst hm;rw[aO,hk0]
theorem Pi {f n:Nat}(p:List Ac)(hp:SzP p)(k0:af×Int×oL×ae→R)(k1:af×Int×oL×ae×LD×LD×bI×bv→R)(k2:af×Int×Int×oL×ae×LD×ah→R)(k3:Int×af×bo×oL×ae×LD×ah×dC→R)(k4:LD×Int×Int×Bool×af×oL→R)
  (hk0:∀a b c d,k0 (a,b,c,d)=UI p (.bad b (-1) (-1) 7)) (hk1:∀a b c d e f g h,k1 (a,b,c,d,e,f,g,h)=UI p (.bad b (-1) (-1) 7)) (hk2:∀a b c d e f g,k2 (a,b,c,d,e,f,g)=UI p (.bad b c (-1) 7)) (hk3:∀a b c d e f g h,k3 (a,b,c,d,e,f,g,h)=UI p (.bad c.Type_ c.Method c.Node a)) (hk4:∀a b c d e bs,k4 (a,b,c,d,e,rZ p bs)=UI p (.good bs)):
  ∀(e q j:Nat) (acc:List (List CS)) (o:An),j+e=p.length→e<q→acc.length≤j→B0 f p (p.drop j) j acc=some o→
  L_Analyze_1 (bq lay0.tab (n+3*f+4504)) (n+3*f+4504) k0 k1 k2 k3 k4 q (p.map Ac.e,(p.length:Int),(j:Int),⟨p.map Ac.e⟩,rZ p acc)=UI p o
 |0,q+1,j,acc,o,h,_,hac,ht=>by
  obtain rfl:j=p.length:=by omega
  rw[List.drop_length]at ht;simp only[B0,lα]at ht;subst ht;rw[vR];simp only[kz,cb,aQ,hk4]
 |e+1,q+1,j,acc,o,h,hq,hac,ht=>by
  have hj:j<p.length:=by omega
  have hty:=hp.ty;rw[lξ hj]at ht;simp only[B0]at ht;rw[vR];have htk:List.take (Int.toNat (j:Int) - 0) (List.drop 0 (p.map Ac.e))=(p.take j).map Ac.e:=by
   rw[List.drop_zero,Nat.sub_zero,Int.toNat_natCast,List.map_take]
  simp only[kz,cK (show((j:Int)<(p.length:Int)) by omega),aO,aE,aP,aM hj,bf,QE,wS (show j<bZ by unfold bZ;omega),bJ,lβ,show(0:Int)≤(j:Int) by omega,decide_true,show(j:Int)≤(p.length:Int) by omega,htk];obtain⟨n1,hn1⟩:∃n1,n+3*f+4504=n1+1504:=⟨n+3*f+3000,by omega⟩
  have hc:=Wu (n:=n1) (p.take j) p[j] (by simp;omega);rw[←hn1]at hc;simp only[aa hc,ba,aD,bG];cases hd:(p.take j).any fun x=>decide (x.name=p[j].name)
  ·rw[hd]at ht;simp only[Bool.false_eq_true,if_false]at ht;rw[aQ];have hmem:p[j]∈p:=lι hj;have fl:=fun(k0:af×Int×oL×ae×LD×LD×bI×bv→R) k1 Z (hkk:∀a b c d,k0 (⟨p.map Ac.e⟩,(j:Int),rZ p acc,p[j].r,a,b,c,d)=Z)=>Nh (m:=n+3*f+4504) (j:Int) (p.length:Int) (p.map Ac.e) p[j].fields ⟨p.map Ac.e⟩ (rZ p acc) p[j].r k0 k1 Z hkk (hp.fl _ hmem) p[j].fields.length (n+3*f+4504) 0 [] (by omega) (by have:=hp.fl _ hmem;omega)
   simp only[List.map_nil,List.drop_zero,show((0:Nat):Int)=0 from rfl]at fl;have hlf:(List.length p[j].r.Fields:Int)=p[j].fields.length:=by show((p[j].fields.map Fe.e).length:Int)=_;rw[lβ]
   rw[hlf];refine Eq.trans (fl _ _ (UI p (.bad j (-1) (-1) 7)) fun a b c d=>hk1 _ _ _ _ _ _ _ _) ?_
   cases hf:Bt [] p[j].fields 0 with
   |none=>
    rw[hf]at ht;simp only[lα]at ht;subst ht;rfl
   |some fs=>
    rw[hf]at ht;simp only at ht;cases hm:BF f p fs j p[j].methods p[j].methods 0 []with
    |none=>rw[hm]at ht;cases ht
    |some om=>
     rw[hm]at ht;have ml:=fun k0 k1 k2 h0 h1=>NQ (n:=n) p hp j (p.length:Int) (p.map Ac.e) p[j] hmem fs (rZ p acc) k0 k1 k2 h0 h1 p[j].methods.length (n+3*f+4504) 0 [] om (by omega) (by have:=hp.me _ hmem;omega) (by simp) (by rw[List.drop_zero];exact hm)
     simp only[List.map_nil,List.length_nil,show((0:Nat):Int)=0 from rfl]at ml;have hlm:(List.length p[j].r.Methods:Int)=p[j].methods.length:=by show((p[j].methods.map Me.e).length:Int)=_;rw[lβ]
     simp only[hlm];refine Eq.trans (ml _ _ _ (fun a b c d e f g=>hk2 _ _ _ _ _ _ _) (fun a b c d e f g h=>hk3 _ _ _ _ _ _ _ _)) ?_;cases om with
     |inl e=>simp only[lα]at ht;subst ht;rfl
     |inr l=>
      simp only at ht;have key:=Pi (n:=n) p hp k0 k1 k2 k3 k4 hk0 hk1 hk2 hk3 hk4 e q (j+1) (acc++[l]) o (by omega) (by omega) (by simp;omega) ht;rw[←key];have htl:List.take l.length (List.drop 0 (l.map eY))=l.map eY:=by
       rw[List.drop_zero];have:=List.take_length (l:=l.map eY);rwa [lβ]at this
      have hb1:Nat.beq (rZ p acc).bn (List.length (rZ p acc).bs)=true:=by simp[rZ]
      have hb2:dW (List.length (rZ p acc).bs+[Da.slice 3 (l.map eY)].length) 24=true:=qh (by simp[rZ];omega) (by decide);simp only[htl,hb1,hb2,aO];have hi:oL.mk (rZ p acc).ty (List.length ((rZ p acc).bs++[Da.slice 3 (l.map eY)])) ((rZ p acc).bs++[Da.slice 3 (l.map eY)])=rZ p (acc++[l]):=by
       simp[rZ]
      rw[hi,wS (show j<bZ by unfold bZ;omega)]
  ·rw[hd]at ht;simp only[if_true,lα]at ht;subst ht;rw[aO,hk0]
theorem TL {f n:Nat}(p:List Ac)(hp:SzP p)(b:Bool)(o:An)(hv:evFn lay0.tab (n+3*f+4504) 84 [.p (.agg [.slice 3 (p.map Ac.e)])] []=some (.p (.bool b),[]))(ho:o= .bad 0 0 0 1∧b=false∨b=true∧B0 f p p 0 []=some o):evFn lay0.tab (n+3*f+4505) 53 [.p (.agg [.slice 3 (p.map Ac.e)])] []=UI p o:=by
 have key:oI (bq lay0.tab (n+3*f+4504)) (n+3*f+4504) ⟨p.map Ac.e⟩=UI p o:=by
  unfold oI;have hv':evFn lay0.tab (n+3*f+4504) 84 [.p (af.e ⟨p.map Ac.e⟩)] []=some (.p (.bool b),[]):=hv;simp only[aa hv',ba,aD,aC];rcases ho with⟨rfl,rfl⟩|⟨rfl,ht⟩
  ·rfl
  ·show L_Analyze_1 _ _ _ _ _ _ _ _ (p.map Ac.e,((p.map Ac.e).length:Int),0,⟨p.map Ac.e⟩,oL.mk (p.map Ac.e) 0 [])=_;rw[lβ];exact Pi (n:=n) p hp _ _ _ _ _ (fun a b c d=>rfl) (fun a b c d e f g h=>rfl) (fun a b c d e f g=>rfl) (fun a b c d e f g h=>rfl) (fun a b c d e bs=>rfl) p.length (n+3*f+4504) 0 [] o (by omega) (by have:=hp.ty;omega) (by simp) (by rw[List.drop_zero];exact ht)
 cases o with
 |bad t m n e=>exact za _ ⟨p.map Ac.e⟩ _ key
 |good bs=>exact za _ ⟨p.map Ac.e⟩ _ key
end
end Go.Ab
end
