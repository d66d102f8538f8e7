import Derived.Test.YtgcndlhopflceaaGreatDoorKg0
import Derived.Test.YtgcndlhopflceaaGreatDoorOg1
import Derived.Laws.BitsLemmas
import Derived.Test.YtgcndlhopflceaaGreatDoorOg0
import Derived.Test.YtgcndlhopflceaaGreatDoorOg2
set_option linter.all false
namespace Go.Ab
open Go
set_option maxRecDepth 100000
noncomputable section
def Qd {n:Nat}(xs ys:LI)(lo len:Nat)(hl:lo+len<=xs.length)(h:len<1501):Ω (n+1503) 137 [.arr 0 lo len 1,pL 1 (ys.map iE)] [.arr (xs.map iE)]=some (pB (decide ((xs.drop lo).take len=ys)),[.arr (xs.map iE)]):=by
 apply QS (n+1502) (xs.map iE) lo len (ys.map iE);have hzl:((xs.drop lo).take len).length=len:=by simp;omega
 simp only[Bs,lβ,bE,iD];by_cases he:len=ys.length
 ·rw[if_pos (by omega)];have hl2:((xs.drop lo).take len).length=ys.length:=by omega
  refine(bp (((xs.drop lo).take len).zip ys) (fun q i=>itL (kK _ (n+1502) _ _) q (lo,len,ys.map iE,(len:Int),i,xs.map iE)) (fun t=>!az t.1 t.2) (fun i=>some (pB false,[.arr (xs.map iE)])) (some (pB true,[.arr (xs.map iE)])) (fun q i hi=>?_) (fun q=>?_) (by simp only[mρ];omega)).trans ?_
  ·simp only[mρ]at hi;rw[nt];have hg:(xs.map iE)[lo+i]?=some (iE (((xs.drop lo).take len)[i]'(by omega))):=by
    rw[lσ,lδ (by omega)];simp
   simp only[kK,ej (show((i:Int)<(len:Int)) by omega),aQ,bW,show(0:Int)<=(i:Int) by omega,decide_true,Int.toNat_natCast,hg,aO,bi,aU (show i<ys.length by omega),bo,dI,wS (show i<cr by unfold cr;omega),List.getElem_zip];exact fY _ _ _
  ·rw[nt];simp only[kK,mρ,hzl,<-he,Nat.min_self,cH,aR]
  ·have key:=As az hl2 bE;cases hf:(((xs.drop lo).take len).zip ys).findIdx? (fun t=>!az t.1 t.2)with
   |none=>simp only[key.1 hf,decide_true]
   |some j=>
    have:¬(xs.drop lo).take len=ys:=fun e=>by rw[key.2 e]at hf;cases hf
    simp only[this,decide_false]
 ·rw[if_neg (by omega)];have:¬(xs.drop lo).take len=ys:=fun e=>he (by rw[<-e];omega)
  simp only[this,decide_false]
def yx {n:Nat}(h:n<=1501):ce n 8=true:=by
 unfold ce;rw[lγ,Nat.ble_eq,Nat.ble_eq];omega
def CF {n:Nat}(ns:List No)(hkl:∀x∈ns,x.kids.length<1000000000000)(hl:ns.length<1501)(k0:LD×af->R)(k1:fm->R)(hk0:∀a b,k0 (a,b)=some (pB false,[]))(hk1:∀a b c d e,k1 (a,b,c,d,e)=some (pB (decide (a=1)),[])):∀(e q i:Nat) (roots:LI),i+e=ns.length->e<q->roots.length<=i->
  itL (gC (ct lay0.tab (n+1503)) (n+1503) k0 k1) q (roots.length,ns.map No.e,(ns.length:Int),(i:Int),roots.map iE)=some (pB (lf (ns.drop i) i roots),[])
 |0,q+1,i,roots,h,_,_=>by
  obtain rfl:i=ns.length:=by omega
  rw[nt];simp only[gC,cH,aR,List.drop_length,lf,hk1]
 |e+1,q+1,i,roots,h,hq,hr=>by
  have hi:i<ns.length:=by omega
  have hx:ns[i]∈ns:=lν _;have hkx:=hkl _ hx;rw[nt,lχ hi];have hw:aq .i64 ((roots.length:Int) - ((ns[i].kids.map iE).length:Int))=(roots.length:Int) - (ns[i].kids.length:Int):=by
   rw[lβ,gU (by omega) (by omega)]
  simp only[gC,ej (show((i:Int)<(ns.length:Int)) by omega),aQ,aO,bi,aU hi,bo,HZ,YG,hw,lf];by_cases hlt:roots.length<ns[i].kids.length
  ·rw[if_pos hlt,ej (by omega),aQ,hk0]
  ·rw[if_neg hlt,wI (by omega),aR];have ht:((roots.length:Int) - (ns[i].kids.length:Int)).toNat=roots.length - ns[i].kids.length:=by omega
   have happ:roots.map iE=roots.map iE:=rfl;have hm:List.take (roots.length - ns[i].kids.length - 0) (roots.map iE)++[Da.int .i64 (i:Int)]=(roots.take (roots.length - ns[i].kids.length)++[(i:Int)]).map iE:=by
    rw[List.map_append,List.map_take];rfl
   have hb:ce ((List.take (roots.length - ns[i].kids.length - 0) (roots.map iE)).length+[Da.int .i64 (i:Int)].length) 8=true:=yx (by simp;omega);have hv:=aa (Qd (n:=n) roots ns[i].kids (roots.length - ns[i].kids.length) (roots.length - (roots.length - ns[i].kids.length)) (by omega) (by omega));have hz:=aa (xG (n:=n) [] ns[i].kids (by simp));have hdr:(roots.drop (roots.length - ns[i].kids.length)).take (roots.length - (roots.length - ns[i].kids.length))=roots.drop (roots.length - ns[i].kids.length):=by
    rw[lψ (by simp)]
   rw[hdr]at hv;simp only[List.map_nil]at hz;have hrec:=CF (n:=n) ns hkl hl k0 k1 hk0 hk1 e q (i+1) (roots.take (roots.length - ns[i].kids.length)++[(i:Int)]) (by omega) (by omega) (by simp;omega);simp only[bW,show(0:Int)<=(roots.length:Int) - (ns[i].kids.length:Int) by omega,show(roots.length:Int) - (ns[i].kids.length:Int)<=(roots.length:Int) by omega,decide_true,aQ,ht,Nat.zero_add,hv,hz,hb,hm,lβ,bk,aF,aX,hk0,wS (show i<cr by unfold cr;omega),hrec,ŷ,fT];by_cases hd:roots.drop (roots.length - ns[i].kids.length)=ns[i].kids
   ·rw[if_pos hd];by_cases h0:roots.length - ns[i].kids.length=roots.length
    ·have hk:([]:LI)=ns[i].kids:=by rw[<-hd,h0,List.drop_length]
     rw[if_pos h0,if_pos hk];simp only[hd,if_true];cases Nat.blt 0 roots.length<;>rfl
    ·rw[if_neg h0,if_pos hd]
   ·rw[if_neg hd];by_cases h0:roots.length - ns[i].kids.length=roots.length
    ·have hk:¬([]:LI)=ns[i].kids:=fun e=>hd (by rw[<-e];simp)
     rw[if_pos h0,if_neg hk];simp only[hd,if_false];cases Nat.blt 0 roots.length<;>rfl
    ·rw[if_neg h0,if_neg hd]
def C0 {n:Nat}(ns:List No)(hkl:∀x∈ns,x.kids.length<1000000000000)(hl:ns.length<1501):Ω (n+1504) 99 [pL 8 (ns.map No.e)] []=some (pB (lf ns 0 []),[]):=by
 apply Di (n+1503) (ns.map No.e);unfold rc;rw[lβ];refine(CF (n:=n) ns hkl hl _ _ (fun _ _=>rfl) (fun a b c d e=>?_) ns.length (n+1503) 0 [] (by omega) (by omega) (by simp)).trans rfl;show iL (az (a:Int) 1) _ _=_;rw[dt,pE,bE,decide_eq_decide.2 (show(a:Int)=1↔a=1 by omega)]
def uQ {b:Nat}:∀(r:List No) (i:Nat) (roots:LI),i+r.length=b->ub i roots->lf r i roots=true->∀x∈r,ub b x.kids
 |[],_,_,_,_,_,x,hx=>by cases hx
 |y::r,i,roots,hb,hr,h,x,hx=>by
  simp only[lf]at h;split at h
  ·cases h
  ·split at h
   ·rename_i hlen hdrop;simp only[List.length_cons]at hb;rcases mδ.1 hx with rfl|hx
    ·intro k hk;rw[<-hdrop]at hk;obtain⟨g1,g2⟩:=hr k (mτ hk);exact⟨g1,by omega⟩
    ·refine uQ r (i+1) _ (by omega) ?_ h x hx;intro k hk;rcases mσ.1 hk with hk|hk
     ·obtain⟨g1,g2⟩:=hr k (qι hk);exact⟨g1,by omega⟩
     ·simp only[List.mem_singleton]at hk;subst hk;omega
   ·cases h
structure SzN (x:No):Prop where
 iv:x.v.I.length<1501
 lv:x.v.L.length<1501
 ks:x.kids.length<1501
def jj (ns:List No):Bool:=lf ns 0 []&&(az (iT ns ((ns.length - 1:Nat):Int)) 18&&((ns.all fun x=>eu ns x&&pQ x)&&bw (xj ns) 24))
variable {ns:List No}
def ð {l:LI}(h:ub ns.length l):∀k∈l,∃y,dL ns k=some y:=by
 intro k hk;obtain⟨g1,g2⟩:=h k hk;obtain⟨j,rfl⟩:∃j:Nat,k=(j:Int):=⟨k.toNat,by omega⟩
 exact⟨_,aU (by omega)⟩
def JG:∀(r:List No) (i:Nat) (roots:LI),roots.length<=i->lf r i roots=true->∀x∈r,x.kids.length<=i+r.length
 |[],_,_,_,_,x,hx=>by cases hx
 |y::r,i,roots,hl,h,x,hx=>by
  simp only[lf]at h;split at h
  ·cases h
  ·rename_i hlt;split at h
   ·rcases mδ.1 hx with rfl|hx
    ·simp only[List.length_cons];omega
    ·have:=JG r (i+1) _ (by simp;omega) h x hx;simp only[List.length_cons];omega
   ·cases h
def C3 {n:Nat}(ns:List No)(hs:∀x∈ns,x.kids.length<1000000000000)(hl:ns.length<1501):Ω (n+1509) 70 [pL 8 (ns.map No.e)] []=some (pB (jj ns),[]):=by
 apply Dk (n+1508) (ns.map No.e);unfold ri jj;simp only[aa (C0 (n:=n+4) ns hs hl),bk,aF,aC];cases hp:lf ns 0 []with
 |false=>rfl
 |true=>
  obtain⟨k,hsub,hk1⟩:=uR ns 0 [] rfl (Nat.zero_le _) .nil hp;have hks:∀x∈ns,x.kids.length<1501:=fun x hx=>by have:=JG ns 0 [] (by simp) hp x hx;omega
  have hkk:=uQ (b:=ns.length) ns 0 [] (by omega) (fun k hk=>by cases hk) hp;have hw:aq .i64 (((ns.map No.e).length:Int) - 1)=((ns.length - 1:Nat):Int):=by rw[lβ,gU (by omega) (by omega)];omega
  have hlt:ns.length - 1<ns.length:=by omega
  simp only[hw,aQ,aO,bi,aU hlt,bo,HZ,Tz,iT,Option.map_some,Option.getD_some,Bool.true_and];cases az ns[ns.length - 1].op 18 with
  |false=>rfl
  |true=>
   simp only[Bool.not_true,aR,Bool.true_and,lβ];refine(bp ns (fun q i=>itL (gD _ (n+1508) _ _) q (ns.map No.e,ns.map No.e,(ns.length:Int),i)) (fun x=>!(eu ns x&&pQ x)) (fun i=>some (pB false,[])) (some (pB (bw (xj ns) 24),[])) (fun q i hi=>?_) (fun q=>?_) (by omega)).trans ?_
   ·rw[nt];have hx:ns[i]∈ns:=lν _;have e1:=aa (YS (n:=n+3) ns ns[i] (ð (hkk _ hx)) (hks _ hx));have e2:=aa (Gc (n:=n+1) ns[i]);simp only[No.e]at e1 e2;simp only[gD,ej (show((i:Int)<(ns.length:Int)) by omega),aQ,aO,bi,aU hi,bo,HZ,wS (show i<cr by unfold cr;omega),e1,e2,bk,aF,aC];cases eu ns ns[i]<;>cases pQ ns[i]<;>rfl
   ·rw[nt];simp only[gD,cH,aR,aa (Qg (n:=n+5) ns (by omega) hkk hks hl),bk,cb,aC,dt,pE]
   ·rw[fd];cases ns.findIdx? fun x=>!(eu ns x&&pQ x)<;>rfl
def jX (f:Fe):Bool:=f0 f.name&&(nu f.kind&&(az f.init.k f.kind&&(kg f.init&&(!az f.init.n (-9223372036854775808)&&!f.init.I.any fun x=>az (-9223372036854775808) x))))
structure SzF (f:Fe):Prop where
 iv:f.init.I.length<1501
 lv:f.init.L.length<1501
def Aw {n:Nat}(f:Fe):Ω (n+1507) 68 [.p f.e] []=some (pB (jX f),[]):=by
 apply AF (n+1506) f.r;have h1:=aa (jG (n:=n) f.name);have h2:=aa (oM (n:=n+1505) f.kind);have h3:=aa (xK (n:=n+3) f.init);simp only[Va.c]at h3;by_cases hi:f.init.I.length<1501
 ·have h4:=aa (TO (n:=n+2) f.init.I (-9223372036854775808) hi);simp only[ly,show f.r.Name=f.name from rfl,show f.r.Kind=f.kind from rfl,show f.r.Init_Kind=f.init.k from rfl,show f.r.Init_N=f.init.n from rfl,show f.r.Init_S=f.init.s from rfl,show f.r.Init_I=f.init.I.map iE from rfl,show f.r.Init_L=f.init.L.map .str from rfl,h1,h2,h3,h4,bk,aF,aC,dt,ZJ,wq,aan,Bool.not_not,Bool.and_true,jX]
 ·have hv:kg f.init=false:=by
   cases h:kg f.init with
   |false=>rfl
   |true=>
    unfold kg vn cT at h;simp only[lγ,Bool.not_eq_true',qβ,dJ,lμ]at h;omega
  simp only[ly,show f.r.Name=f.name from rfl,show f.r.Kind=f.kind from rfl,show f.r.Init_Kind=f.init.k from rfl,show f.r.Init_N=f.init.n from rfl,show f.r.Init_S=f.init.s from rfl,show f.r.Init_I=f.init.I.map iE from rfl,show f.r.Init_L=f.init.L.map .str from rfl,h1,h2,h3,hv,bk,aF,aC,dt,ZJ,wq,aan,Bool.not_not,Bool.and_true,jX];first|done|(cases f0 f.name<;>cases nu f.kind<;>cases az f.init.k f.kind<;>rfl)
def pY (m:Me):Bool:=f0 m.name&&(!aP 4 (m.params.length:Int)&&((!(!az m.result 0)||nu m.result)&&m.params.all fun p=>f0 p.name&&nu p.kind))
def xH {n:Nat}(m:Me):Ω (n+1507) 69 [.p m.e] []=some (pB (pY m),[]):=by
 apply yo (n+1506) m.r;have h1:=aa (jG (n:=n) m.name);have h2:=aa (oM (n:=n+1505) m.result);by_cases hp:m.params.length<1501;case neg=>
  have h4:aP 4 (m.params.length:Int)=true:=ej (by omega);simp only[jM,show m.r.Name=m.name from rfl,show m.r.Params=m.params.map Pa.e from rfl,show m.r.Result=m.result from rfl,lβ,h4,h1,h2,bk,aF,aC,pY];cases f0 m.name<;>rfl
 have hl:itL (dS (ct lay0.tab (n+1506)) (n+1506) (fun u22=>some (pB false,[])) (fun(l23,i24,i25)=>some (pB true,[]))) (n+1506) (m.params.map Pa.e,(m.params.length:Int),0)=some (pB (m.params.all fun p=>f0 p.name&&nu p.kind),[]):=by
  refine(bp m.params (fun q i=>itL (dS _ (n+1506) _ _) q (m.params.map Pa.e,(m.params.length:Int),i)) (fun p=>!(f0 p.name&&nu p.kind)) (fun i=>some (pB false,[])) (some (pB true,[])) (fun q i hi=>?_) (fun q=>?_) (by omega)).trans ?_
  ·rw[nt];simp only[dS,ej (show((i:Int)<(m.params.length:Int)) by omega),aQ,aO,bi,aU hi,bo,dPa,show ∀p:Pa,p.r.Name=p.name from fun _=>rfl,show ∀p:Pa,p.r.Kind=p.kind from fun _=>rfl,wS (show i<cr by unfold cr;omega),aa (jG (n:=n) m.params[i].name),aa (oM (n:=n+1505) m.params[i].kind),bk,aF,aC];cases f0 m.params[i].name<;>cases nu m.params[i].kind<;>rfl
  ·rw[nt];simp only[dS,cH,aR]
  ·rw[fd];cases m.params.findIdx? fun p=>!(f0 p.name&&nu p.kind)<;>rfl
 simp only[jM,show m.r.Name=m.name from rfl,show m.r.Params=m.params.map Pa.e from rfl,show m.r.Result=m.result from rfl,lβ,hl,h1,h2,bk,aF,aC,pY];cases f0 m.name<;>cases aP 4 (m.params.length:Int)<;>cases az m.result 0<;>cases nu m.result<;>rfl
structure abp (m:Me):Prop where
 ps:m.params.length<1501
 ns:m.nodes.length<1501
 nx:∀x∈m.nodes,SzN x
structure SzA (a:Ac):Prop where
 fl:a.fields.length<1501
 me:a.methods.length<1501
 ff:∀f∈a.fields,SzF f
 mm:∀m∈a.methods,abp m
def TN {n:Nat}(fs:List Fe)(h:fs.length<1501):Ω (n+1510) 66 [pL 7 (fs.map Fe.e),.p (.fn 67 [])] []=some (pB (fs.any fun f=>!jX f),[]):=by
 have h1:∀f∈fs,Ω (n+1508) 67 [.p f.e] []=some (pB (!jX f),[]):=by
  intro f hm;apply QV (n+1507) f.r;have:=aa (Aw (n:=n) f);simp only[Fe.e]at this;simp only[Bv,this,bk,aF,aC,dt,ZJ]
 have hi:Ω (n+1509) 96 [pL 7 (fs.map Fe.e),.p (.fn 67 [])] []=some (pI (sq (fs.findIdx? fun f=>!jX f)),[]):=by
  apply Y8 (n+1508) (fs.map Fe.e);unfold NT;rw[lβ];refine(bp fs (fun q i=>itL (oW _ (n+1508) _ _) q (fs.map Fe.e,(fs.length:Int),i)) (fun f=>!jX f) (fun i=>some (pI i,[])) (some (pI (-1),[])) (fun q i hi=>?_) (fun q=>?_) (by omega)).trans ?_
  ·rw[nt];have:=aa (h1 fs[i] (lν _));simp only[Fe.e]at this;simp only[oW,ej (show((i:Int)<(fs.length:Int)) by omega),aQ,aO,bi,aU hi,bo,dFe,wS (show i<cr by unfold cr;omega),this,bk,aF,aX];exact fY _ _ _
  ·rw[nt];simp only[oW,cH,aR]
  ·cases fs.findIdx? fun f=>!jX f<;>rfl
 apply Uy (n+1509) (fs.map Fe.e);unfold Gu;simp only[aa hi,bk,cb,aC,aX];rw[<-List.findIdx?_isSome];cases fs.findIdx? fun f=>!jX f with
 |none=>rfl
 |some j=>simp[sq,bW,aQ]
def wJ:List Me->Int->Option Int
 |[],t=>some t
 |m::r,t=>bif aP 1500 (aq .i64 (t+(m.nodes.length:Int)))then none else bif pY m&&jj m.nodes then wJ r (aq .i64 (t+(m.nodes.length:Int)))else none
def Zp (a:Ac):Bool:=f0 a.name&&(!aP 8 (a.fields.length:Int)&&(!aP 16 (a.methods.length:Int)&&!a.fields.any fun f=>!jX f))
def Kh:List Ac->Int->Option Int
 |[],t=>some t
 |a::r,t=>bif Zp a then(match wJ a.methods t with|none=>none|some t=>Kh r t)else none
def je (p:List Ac):Bool:=!aP 8 (p.length:Int)&&(Kh p 0).isSome
structure SzB (b:Nat)(a:Ac):Prop where
 fl:a.fields.length<b
 me:a.methods.length<b
 fv:∀f∈a.fields,f.init.I.length<b/\f.init.L.length<b
 mp:∀m∈a.methods,m.params.length<b/\m.nodes.length<b/\∀x∈m.nodes,x.kids.length<b/\x.v.I.length<b/\x.v.L.length<b
def zp:∀(l:List Me) (t t':Int),wJ l t=some t'->(∀m∈l,m.nodes.length<1000000000000)->0<=t->t<=1500->0<=t'/\t'<=1500/\∀m∈l,m.nodes.length<=1500
 |[],t,t',h,_,h0,h1=>by
  simp only[wJ,lα]at h;subst h;exact⟨h0,h1,fun m hm=>by cases hm⟩
 |m::r,t,t',h,hb,h0,h1=>by
  have hm:=hb m (lη ..);simp only[wJ]at h;have hw:aq .i64 (t+(m.nodes.length:Int))=t+(m.nodes.length:Int):=gU (by omega) (by omega);rw[hw]at h;by_cases hg:1500<t+(m.nodes.length:Int)
  ·rw[ej hg]at h;cases h
  ·rw[wI hg]at h;simp only[cond_false]at h;cases ha:pY m&&jj m.nodes with
   |false=>rw[ha]at h;cases h
   |true=>
    rw[ha]at h;obtain⟨g1,g2,g3⟩:=zp r _ t' h (fun x hx=>hb x (lρ _ hx)) (by omega) (by omega);refine⟨g1,g2,fun x hx=>?_⟩
    rcases mδ.1 hx with rfl|hx
    ·omega
    ·exact g3 x hx
def PX {n:Nat}(a b:Int)(l:LD)(ml:List Me)(hm:∀m∈ml,m.nodes.length<1000000000000/\∀x∈m.nodes,x.kids.length<1000000000000)(hl:ml.length<1501)(k0:aA->R)(k1:jO->R)(Z:R)(hk0:∀a,k0 a=Z):∀(e q j:Nat) (t:Int),j+e=ml.length->e<q->0<=t->t<=1500->
  itL (mM (ct lay0.tab (n+1510)) (n+1510) k0 k1) q (t,l,a,b,ml.map Me.e,(ml.length:Int),(j:Int))=match wJ (ml.drop j) t with|none=>Z|some t=>k1 (t,l,a,b,ml.map Me.e,(ml.length:Int),(ml.length:Int))
 |0,q+1,j,t,h,_,_,_=>by
  obtain rfl:j=ml.length:=by omega
  rw[nt];simp only[mM,cH,aR,List.drop_length,wJ]
 |e+1,q+1,j,t,h,hq,h0,h1=>by
  have hj:j<ml.length:=by omega
  obtain⟨hx1,hx2⟩:=hm ml[j] (lν _);have e1:=aa (xH (n:=n+3) ml[j]);simp only[Me.e]at e1;have hw:aq .i64 (t+(ml[j].nodes.length:Int))=t+(ml[j].nodes.length:Int):=gU (by omega) (by omega);rw[nt,lχ hj];simp only[mM,ej (show((j:Int)<(ml.length:Int)) by omega),aQ,aO,bi,aU hj,bo,Z7,wS (show j<cr by unfold cr;omega),e1,show ml[j].r.Nodes=ml[j].nodes.map No.e from rfl,lβ,bk,aF,aC,hk0,wJ,hw];by_cases hg:1500<t+(ml[j].nodes.length:Int)
  ·rw[ej hg];rfl
  ·rw[wI hg];have e2:=aa (C3 (n:=n+1) ml[j].nodes hx2 (by omega));simp only[e2,bk,aF,aC,aR,cond_false];cases pY ml[j]
   ·rfl
   ·cases jj ml[j].nodes
    ·rfl
    ·exact PX a b l ml hm hl k0 k1 Z hk0 e q (j+1) _ (by omega) (by omega) (by omega) (by omega)
def PY {n b:Nat}(p:List Ac)(hp:∀a∈p,SzB b a)(hb:b<=1000000000000)(hl:p.length<1501)(k0:ae->R)(k1:aA->R)(k2:jN->R)(Z:R)(hk0:∀a,k0 a=Z)(hk1:∀a,k1 a=Z)(W:R)(hk2:∀a b c d,k2 (a,b,c,d)=W):∀(e q j:Nat) (t:Int),j+e=p.length->e<q->0<=t->t<=1500->
  itL (mL (ct lay0.tab (n+1510)) (n+1510) k0 k1 k2) q (t,p.map Ac.e,(p.length:Int),(j:Int))=match Kh (p.drop j) t with|none=>Z|some _=>W
 |0,q+1,j,t,h,_,_,_=>by
  obtain rfl:j=p.length:=by omega
  rw[nt];simp only[mL,cH,aR,List.drop_length,Kh,hk2]
 |e+1,q+1,j,t,h,hq,h0,h1=>by
  have hj:j<p.length:=by omega
  have hx:=hp p[j] (lν _);have e1:=aa (jG (n:=n+4) p[j].name);rw[nt,lχ hj];simp only[mL,ej (show((j:Int)<(p.length:Int)) by omega),aQ,aO,bi,aU hj,bo,Z6,show p[j].r.Name=p[j].name from rfl,show p[j].r.Fields=p[j].fields.map Fe.e from rfl,show p[j].r.Methods=p[j].methods.map Me.e from rfl,lβ,wS (show j<cr by unfold cr;omega),e1,bk,aF,aC,aX,hk0,Kh,Zp];cases f0 p[j].name
  ·rfl
  by_cases hf:8<(p[j].fields.length:Int)
  ·rw[ej hf];rfl
  by_cases hm:16<(p[j].methods.length:Int)
  ·rw[wI hf,ej hm];rfl
  rw[wI hf,wI hm];have hmb:∀m∈p[j].methods,m.nodes.length<1000000000000/\∀x∈m.nodes,x.kids.length<1000000000000:=fun m hm=>⟨by have:=(hx.mp m hm).2.1;omega,fun x h=>by have:=((hx.mp m hm).2.2 x h).1;omega⟩
  have e2:=aa (TN (n:=n) p[j].fields (by omega));have hmet:=fun kk=>PX (n:=n) (p.length:Int) (j:Int) (p.map Ac.e) p[j].methods hmb (by omega) (fun u32=>k1 u32) kk Z hk1 p[j].methods.length (n+1510) 0 t (by omega) (by omega) h0 h1
  simp only[show((0:Nat):Int)=0 from rfl,List.drop_zero]at hmet;simp only[e2,hmet,bk,aF,aC,aX,wS (show j<cr by unfold cr;omega),aQ,aR,Bool.not_false,Bool.true_and];cases p[j].fields.any fun f=>!jX f
  ·simp only[aQ,aR,Bool.not_false,Bool.true_and,cond_true];cases hs:wJ p[j].methods t with
   |none=>rfl
   |some t'=>
    obtain⟨g1,g2,_⟩:=zp _ _ _ hs (fun m hm=>(hmb m hm).1) h0 h1;exact PY p hp hb hl k0 k1 k2 Z hk0 hk1 W hk2 e q (j+1) _ (by omega) (by omega) g1 g2
  ·rfl
def TT {n b:Nat}(p:List Ac)(hp:∀a∈p,SzB b a)(hb:b<=1000000000000):Ω (n+1511) 27 [.p (.agg [.slice 3 (p.map Ac.e)])] []=some (pB (je p),[]):=by
 apply UE (n+1510) ⟨p.map Ac.e⟩;unfold GA je;simp only[lβ];by_cases hl:8<(p.length:Int)
 ·rw[ej hl];rfl
 ·rw[wI hl,aR];refine Eq.trans (PY (n:=n) p hp hb (by omega) _ _ _ (some (pB false,[])) (by intros;rfl) (by intros;rfl) (some (pB true,[])) (by intros;rfl) p.length (n+1510) 0 0 (by omega) (by omega) (by omega) (by omega)) ?_;rw[List.drop_zero];cases Kh p 0<;>rfl
def SzA.b {a:Ac}(h:SzA a):SzB 1501 a:=⟨h.fl,h.me,fun f hf=>⟨(h.ff f hf).iv,(h.ff f hf).lv⟩,fun m hm=>⟨(h.mm m hm).ps,(h.mm m hm).ns,fun x hx=>⟨((h.mm m hm).nx x hx).ks,((h.mm m hm).nx x hx).iv,((h.mm m hm).nx x hx).lv⟩⟩⟩
def Oy (h:jj ns=true):lu ns:=by
 unfold jj at h;simp only[lγ,mζ]at h;obtain⟨hp,_,hall,_⟩:=h;have hkk:=uQ (b:=ns.length) ns 0 [] (by omega) (fun k hk=>by cases hk) hp;have hc:∀x∈ns,eu ns x=true:=fun x hx=>(hall x hx).1
 refine⟨uR ns 0 [] rfl (Nat.zero_le _) .nil hp,fun x hx=>⟨fun ho=>?_,fun ho=>?_⟩,fun x hx ho k hk y hy=>?_⟩
 ·have:=hc x hx;rcases ho with h|h|h|h|h|h|h<;>(unfold eu at this;rw[h]at this;simp only[bE,eN,Pd,bW,lγ,lε,Int.reduceEq,decide_false,decide_true,cond_true,cond_false]at this;omega)
 ·have:=hc x hx;unfold eu at this;rw[ho]at this;simp only[bE,eN,Pd,bW,lγ,lε,Int.reduceEq,decide_false,decide_true,cond_true,cond_false]at this;omega
 ·have:=hc x hx;have ha:dq ns x 0 uK=true:=by
   rcases ho with h|h<;>(unfold eu at this;rw[h]at this;simp only[bE,lγ,Int.reduceEq,decide_false,decide_true,cond_true,cond_false]at this;exact this.2)
  unfold dq at ha;rw[List.drop_zero,mζ]at ha;have:=ha k hk;unfold iT at this;rw[hy]at this;simp only[Option.map_some,Option.getD_some,uK,fi,up,bW,bE,qα,lγ,lε]at this;omega
def XJ:∀(ml:List Me) (t t':Int),wJ ml t=some t'->∀m∈ml,jj m.nodes=true/\pY m=true
 |[],_,_,_,m,hm=>by cases hm
 |x::r,t,t',h,m,hm=>by
  simp only[wJ]at h;cases h1:aP 1500 (aq .i64 (t+(x.nodes.length:Int)))with
  |true=>rw[h1]at h;simp at h
  |false=>
   cases h2:pY x&&jj x.nodes with
   |false=>rw[h1,h2]at h;simp at h
   |true=>
    rw[h1,h2]at h;simp only[cond_true,cond_false]at h;rcases mδ.1 hm with rfl|hm
    ·rw[lγ]at h2;exact⟨h2.2,h2.1⟩
    ·exact XJ r _ _ h m hm
def Nz:∀(p:List Ac) (t t':Int),Kh p t=some t'->∀a∈p,Zp a=true/\∀m∈a.methods,jj m.nodes=true/\pY m=true
 |[],_,_,_,a,ha=>by cases ha
 |x::r,t,t',h,a,ha=>by
  simp only[Kh]at h;cases h1:Zp x with
  |false=>rw[h1]at h;simp at h
  |true=>
   rw[h1]at h;simp only[cond_true]at h;cases h2:wJ x.methods t with
   |none=>rw[h2]at h;cases h
   |some t1=>
    rw[h2]at h;rcases mδ.1 ha with rfl|ha
    ·exact⟨h1,XJ _ _ _ h2⟩
    ·exact Nz r _ _ h a ha
def Kl {p:List Ac}(h:je p=true):p.length<=8/\∀a∈p,∀m∈a.methods,lu m.nodes/\m.params.length<=4:=by
 unfold je at h;simp only[lγ,Bool.not_eq_true',dJ,lμ]at h;obtain⟨h1,h2⟩:=h;refine⟨by omega,fun a ha m hm=>?_⟩
 obtain⟨t,ht⟩:=Option.isSome_iff_exists.1 h2;obtain⟨g1,g2⟩:=(Nz p 0 t ht a ha).2 m hm;refine⟨Oy g1,?_⟩;unfold pY at g2;simp only[lγ,Bool.not_eq_true',dJ,lμ]at g2;omega
def Kv {n:Nat}(a b:Ac):Ω (n+1) 29 [.p a.e,.box 0 0] [b.r.b]=some (pB (decide (a.name=b.name)),[b.r.b]):=by
 apply Ld n a.r b.r;unfold xL;show iL (be a.name b.name) _ _=_;rw[la];cases decide (a.name=b.name)<;>rfl
def Kw {n:Nat}(a b:Me):Ω (n+1) 31 [.p a.e,.box 0 0] [b.r.b]=some (pB (decide (a.name=b.name)),[b.r.b]):=by
 apply Lf n a.r b.r;unfold xM;show iL (be a.name b.name) _ _=_;rw[la];cases decide (a.name=b.name)<;>rfl
def ņ (o:Option Nat):bw 0 (sq o)=o.isSome:=by cases o<;>simp[sq,bW]
def TR {n:Nat}(ts:List Ac)(y:Ac)(h:ts.length<1501):Ω (n+1504) 28 [pL 3 (ts.map Ac.e),.fn 29 [.box 0 0]] [y.r.b]=some (pB (ts.any fun t=>decide (t.name=y.name)),[y.r.b]):=by
 have hi:Ω (n+1503) 33 [pL 3 (ts.map Ac.e),.fn 29 [.box 0 0]] [y.r.b]=some (pI (sq (ts.findIdx? fun t=>decide (t.name=y.name))),[y.r.b]):=by
  apply Lo (n+1502) (ts.map Ac.e) y.r;unfold xR;rw[lβ];refine(bp ts (fun q i=>itL (jq _ (n+1502) _ _) q (ts.map Ac.e,(ts.length:Int),i,y.r)) (fun t=>decide (t.name=y.name)) (fun i=>some (pI i,[y.r.b])) (some (pI (-1),[y.r.b])) (fun q i hi=>?_) (fun q=>?_) (by omega)).trans ?_
  ·rw[nt];simp only[jq,ej (show((i:Int)<(ts.length:Int)) by omega),aQ,aO,bi,aU hi,bo,Z6,wS (show i<cr by unfold cr;omega)];have:=Kv (n:=n+1501) ts[i] y;simp only[Ac.e]at this;simp only[aa this,bk,aF,aX];exact fY _ _ _
  ·rw[nt];simp only[jq,cH,aR]
  ·cases ts.findIdx? fun t=>decide (t.name=y.name)<;>rfl
 apply UC (n+1503) (ts.map Ac.e) y.r;unfold Gy;simp only[aa hi,bk,cb,aX,ņ];rw[List.findIdx?_isSome];cases ts.any (fun t=>decide (t.name=y.name))<;>rfl
def TP {n:Nat}(ts:List Me)(y:Me)(h:ts.length<1501):Ω (n+1504) 30 [pL 4 (ts.map Me.e),.fn 31 [.box 0 0]] [y.r.b]=some (pB (ts.any fun t=>decide (t.name=y.name)),[y.r.b]):=by
 have hi:Ω (n+1503) 35 [pL 4 (ts.map Me.e),.fn 31 [.box 0 0]] [y.r.b]=some (pI (sq (ts.findIdx? fun t=>decide (t.name=y.name))),[y.r.b]):=by
  apply Ln (n+1502) (ts.map Me.e) y.r;unfold xQ;rw[lβ];refine(bp ts (fun q i=>itL (jp _ (n+1502) _ _) q (ts.map Me.e,(ts.length:Int),i,y.r)) (fun t=>decide (t.name=y.name)) (fun i=>some (pI i,[y.r.b])) (some (pI (-1),[y.r.b])) (fun q i hi=>?_) (fun q=>?_) (by omega)).trans ?_
  ·rw[nt];simp only[jp,ej (show((i:Int)<(ts.length:Int)) by omega),aQ,aO,bi,aU hi,bo,Z7,wS (show i<cr by unfold cr;omega)];have:=Kw (n:=n+1501) ts[i] y;simp only[Me.e]at this;simp only[aa this,bk,aF,aX];exact fY _ _ _
  ·rw[nt];simp only[jp,cH,aR]
  ·cases ts.findIdx? fun t=>decide (t.name=y.name)<;>rfl
 apply UA (n+1503) (ts.map Me.e) y.r;unfold acF;simp only[aa hi,bk,cb,aX,ņ];rw[List.findIdx?_isSome];cases ts.any (fun t=>decide (t.name=y.name))<;>rfl
def wA:List (LN×Vr)->List Fe->Nat->Option (List (LN×Vr))
 |acc,[],_=>some acc
 |acc,x::r,k=>match fS acc x.name with
  |some _=>none
  |none=>wA (uS acc x.name ⟨x.kind,k,true⟩) r (k+1)
inductive An where
 |bad (t m n e:Int)
 |good (bs:List (List CS))
def nC (f:Nat)(p:List Ac)(fs:List (LN×Vr))(i:Nat)(all:List Me):List Me->Nat->List CS->Option (An ⊕ List CS)
 |[],_,acc=>some (.inr acc)
 |m::r,j,acc=>if((all.take j).any fun x=>decide (x.name=m.name))=true then some (.inl (.bad i j (-1) 7))else match eX f p fs m with
  |none=>none
  |some none=>some (.inl (.bad i j (-1) 7))
  |some (some c)=>if c.er=0 then nC f p fs i all r (j+1) (acc++[c])else some (.inl (.bad i j c.nd c.er))
def ni (f:Nat)(p:List Ac):List Ac->Nat->List (List CS)->Option An
 |[],_,acc=>some (.good acc)
 |a::r,j,acc=>if((p.take j).any fun x=>decide (x.name=a.name))=true then some (.bad j (-1) (-1) 7)else match wA [] a.fields 0 with
  |none=>some (.bad j (-1) (-1) 7)
  |some fs=>match nC f p fs j a.methods a.methods 0 []with
   |none=>none
   |some (.inl e)=>some e
   |some (.inr b)=>ni f p r (j+1) (acc++[b])
def plD (t m n:Int):Da:= .agg [.int .i64 t,.int .i64 m,.int .i64 n]
def cS (p:List Ac)(bs:List (List CS)):fH:=⟨p.map Ac.e,bs.length,bs.map fun l=> .slice 3 (l.map cJ)⟩
def Rh (p:List Ac):An->R
 | .bad t m n e=>some (.tup [.p .nilptr,.p (plD t m n),pI e],[])
 | .good bs=>some (.tup [.box 0 0,.p (plD 0 0 0),pI 0],(cS p bs).hp)
def Io {m:Nat}(ti tl:Int)(ty:LD)(fl:List Fe)(P:au)(I:fH)(A:ae)(k0:au×Int×fH×ae×LD×LD×cf×bu->R)(k1:Int×LD×Int×Int×LD×Int×Int×Bool×au×fH×ae×LD×LD->R)(Z:R)(hk0:∀a b c d,k0 (P,ti,I,A,a,b,c,d)=Z)(hl:fl.length<1501):∀(e q j:Nat) (acc:List (LN×Vr)),j+e=fl.length->e<q->
  itL (kC (ct lay0.tab m) m k0 k1) q (ti,ty,tl,ti,fl.map Fe.e,(fl.length:Int),(j:Int),P,I,A,acc.map (fun p=> .str p.1),acc.map (fun p=>p.2.e))=match wA acc (fl.drop j) j with
   |none=>Z
   |some fs=>k1 (ti,ty,tl,ti,fl.map Fe.e,(fl.length:Int),(fl.length:Int),false,P,I,A,fs.map (fun p=> .str p.1),fs.map (fun p=>p.2.e))
 |0,q+1,j,acc,h,_=>by
  obtain rfl:j=fl.length:=by omega
  rw[nt];simp only[kC,cH,aR,List.drop_length,wA]
 |e+1,q+1,j,acc,h,hq=>by
  have hj:j<fl.length:=by omega
  rw[nt,lχ hj];have hn:fl[j].r.Name=fl[j].name:=rfl;have hkd:fl[j].r.Kind=fl[j].kind:=rfl;simp only[kC,ej (show((j:Int)<(fl.length:Int)) by omega),aQ,aO,bi,aU hj,bo,dFe,wS (show j<cr by unfold cr;omega),hn,hkd,wA];rw[lkS];cases hg:fS acc fl[j].name with
  |some v=>simp only[Mz,Ĵ,hk0]
  |none=>
   simp only[XF];refine Eq.trans (upS acc fl[j].name Vr.e ⟨fl[j].kind,(j:Int),true⟩ fun a b=>itL (kC (ct lay0.tab m) m k0 k1) q (ti,ty,tl,ti,fl.map Fe.e,(fl.length:Int),((j+1:Nat):Int),P,I,A,a,b)) ?_
   exact Io ti tl ty fl P I A k0 k1 Z hk0 hl e q (j+1) _ (by omega) (by omega)
structure SzM (m:Me):Prop where
 ns:m.nodes.length<1501
 ks:∀x∈m.nodes,x.kids.length<1501
 ps:m.params.length<1501
structure SzP (p:List Ac):Prop where
 ty:p.length<1501
 me:∀a∈p,a.methods.length<1501
 fl:∀a∈p,a.fields.length<1501
 mm:∀a∈p,∀m∈a.methods,SzM m
def I3 {f n:Nat}(p:List Ac)(hp:SzP p)(ti:Nat)(tl:Int)(ty:LD)(a:Ac)(ha:a∈p)(fs:List (LN×Vr))(I:fH)(k0:au×Int×Int×fH×ae×LD×aA->R)(k1:Int×au×bb×fH×ae×LD×aA×cX->R)(k2:Int×LD×LD×Nat×LD×Int×Int×LD×Int×Int×Bool×au×fH×ae×LD->R)
  (hk0:∀a b c d e f g,k0 (a,b,c,d,e,f,g)=Rh p (.bad b c (-1) 7)) (hk1:∀a b c d e f g h,k1 (a,b,c,d,e,f,g,h)=Rh p (.bad c.Type_ c.Method c.Node a)):∀(e q j:Nat) (acc:List CS) (o:An ⊕ List CS),j+e=a.methods.length->e<q->acc.length<=j->nC f p fs ti a.methods (a.methods.drop j) j acc=some o->
  itL (kD (ct lay0.tab (n+3*f+4504)) (n+3*f+4504) k0 k1 k2) q ((ti:Int),fs.map (fun p=> .str p.1),fs.map (fun p=>p.2.e),acc.length,ty,tl,(ti:Int),a.methods.map Me.e,(a.methods.length:Int),(j:Int),⟨p.map Ac.e⟩,I,a.r,acc.map cJ)=match o with
   | .inl e=>Rh p e
   | .inr l=>k2 ((ti:Int),fs.map (fun p=> .str p.1),fs.map (fun p=>p.2.e),l.length,ty,tl,(ti:Int),a.methods.map Me.e,(a.methods.length:Int),(a.methods.length:Int),false,⟨p.map Ac.e⟩,I,a.r,l.map cJ)
 |0,q+1,j,acc,o,h,_,hac,hm=>by
  obtain rfl:j=a.methods.length:=by omega
  rw[List.drop_length]at hm;simp only[nC,lα]at hm;subst hm;rw[nt];simp only[kD,cH,aR]
 |e+1,q+1,j,acc,o,h,hq,hac,hm=>by
  have hj:j<a.methods.length:=by omega
  have hml:=hp.me a ha;rw[lχ hj]at hm;simp only[nC]at hm;rw[nt];have hlm:(List.length a.r.Methods:Int)=a.methods.length:=by show((a.methods.map Me.e).length:Int)=_;rw[lβ]
  have htk:List.take (Int.toNat (j:Int) - 0) (List.drop 0 a.r.Methods)=(a.methods.take j).map Me.e:=by
   rw[List.drop_zero,Nat.sub_zero,Int.toNat_natCast,List.map_take];rfl
  simp only[kD,ej (show((j:Int)<(a.methods.length:Int)) by omega),aQ,aO,bi,aU hj,bo,Z7,wS (show j<cr by unfold cr;omega),bW,hlm,show(0:Int)<=(j:Int) by omega,decide_true,show(j:Int)<=(a.methods.length:Int) by omega,htk];obtain⟨n1,hn1⟩:∃n1,n+3*f+4504=n1+1504:=⟨n+3*f+3000,by omega⟩
  have hc:=TP (n:=n1) (a.methods.take j) a.methods[j] (by simp;omega);rw[<-hn1]at hc;simp only[aa hc,bk,aF,aX];cases hd:(a.methods.take j).any fun x=>decide (x.name=a.methods[j].name)
  ·rw[hd]at hm;simp only[Bool.false_eq_true,if_false]at hm;rw[aR];have sm:=hp.mm a ha _ (lν hj);have run:∀o1,eX f p fs a.methods[j]=some o1->Ω (n+3*f+4504) 32 [.p (au.e ⟨p.map Ac.e⟩),.p (.map (fs.map fun p=> .str p.1) (fs.map fun p=>p.2.e)),.p a.methods[j].r.e] []=some (RI o1,[]):=fun o1 h1=>YO p fs a.methods[j] o1 h1 hp.ty hp.me sm.ns sm.ks sm.ps
   cases hck:eX f p fs a.methods[j]with
   |none=>rw[hck]at hm;cases hm
   |some o1=>
    rw[hck]at hm;rw[aa (run o1 hck)];cases o1 with
    |none=>
     simp only[lα]at hm;subst hm;exact hk1 7 ⟨p.map Ac.e⟩ ⟨ti,j,-1⟩ I a.r (acc.map cJ) a.methods[j].r ⟨[],.nilmap,.nilmap⟩
    |some c=>
     simp only at hm;show iL (!az c.er 0) _ _=_;rw[bE,iD];by_cases h0:c.er=0
     ·rw[if_pos h0]at hm ⊢
      have hb1:Nat.beq acc.length (acc.map cJ).length=true:=by simp
      have hb2:ce ((acc.map cJ).length+[cJ c].length) 40=true:=w8 (by simp;omega) (by decide);have key:=I3 (n:=n) p hp ti tl ty a ha fs I k0 k1 k2 hk0 hk1 e q (j+1) (acc++[c]) o (by omega) (by omega) (by simp;omega) hm;rw[<-key];show iL (Nat.beq acc.length (acc.map cJ).length) (iL (ce ((acc.map cJ).length+[cJ c].length) 40) _ _) _=_;rw[hb1,hb2,aQ,aQ];have hap:acc.map cJ++[cJ c]=(acc++[c]).map cJ:=by simp
      show itL (kD _ _ k0 k1 k2) q (_,_,_,List.length (acc.map cJ++[cJ c]),_,_,_,_,_,_,_,_,_,acc.map cJ++[cJ c])=_;rw[hap,lβ]
     ·rw[if_neg h0]at hm ⊢
      simp only[lα]at hm;subst hm;exact hk1 c.er ⟨p.map Ac.e⟩ ⟨ti,j,c.nd⟩ I a.r (acc.map cJ) a.methods[j].r _
  ·rw[hd]at hm;simp only[if_true,lα]at hm;subst hm;rw[aQ,hk0]
def Ki {f n:Nat}(p:List Ac)(hp:SzP p)(k0:au×Int×fH×ae->R)(k1:au×Int×fH×ae×LD×LD×cf×bu->R)(k2:au×Int×Int×fH×ae×LD×aA->R)(k3:Int×au×bb×fH×ae×LD×aA×cX->R)(k4:LD×Int×Int×Bool×au×fH->R)
  (hk0:∀a b c d,k0 (a,b,c,d)=Rh p (.bad b (-1) (-1) 7)) (hk1:∀a b c d e f g h,k1 (a,b,c,d,e,f,g,h)=Rh p (.bad b (-1) (-1) 7)) (hk2:∀a b c d e f g,k2 (a,b,c,d,e,f,g)=Rh p (.bad b c (-1) 7)) (hk3:∀a b c d e f g h,k3 (a,b,c,d,e,f,g,h)=Rh p (.bad c.Type_ c.Method c.Node a)) (hk4:∀a b c d e bs,k4 (a,b,c,d,e,cS p bs)=Rh p (.good bs)):
  ∀(e q j:Nat) (acc:List (List CS)) (o:An),j+e=p.length->e<q->acc.length<=j->ni f p (p.drop j) j acc=some o->
  itL (kA (ct lay0.tab (n+3*f+4504)) (n+3*f+4504) k0 k1 k2 k3 k4) q (p.map Ac.e,(p.length:Int),(j:Int),⟨p.map Ac.e⟩,cS p acc)=Rh p o
 |0,q+1,j,acc,o,h,_,hac,ht=>by
  obtain rfl:j=p.length:=by omega
  rw[List.drop_length]at ht;simp only[ni,lα]at ht;subst ht;rw[nt];simp only[kA,cH,aR,hk4]
 |e+1,q+1,j,acc,o,h,hq,hac,ht=>by
  have hj:j<p.length:=by omega
  have hty:=hp.ty;rw[lχ hj]at ht;simp only[ni]at ht;rw[nt];have htk:List.take (Int.toNat (j:Int) - 0) (List.drop 0 (p.map Ac.e))=(p.take j).map Ac.e:=by
   rw[List.drop_zero,Nat.sub_zero,Int.toNat_natCast,List.map_take]
  simp only[kA,ej (show((j:Int)<(p.length:Int)) by omega),aQ,aO,bi,aU hj,bo,Z6,wS (show j<cr by unfold cr;omega),bW,lβ,show(0:Int)<=(j:Int) by omega,decide_true,show(j:Int)<=(p.length:Int) by omega,htk];obtain⟨n1,hn1⟩:∃n1,n+3*f+4504=n1+1504:=⟨n+3*f+3000,by omega⟩
  have hc:=TR (n:=n1) (p.take j) p[j] (by simp;omega);rw[<-hn1]at hc;simp only[aa hc,bk,aF,aX];cases hd:(p.take j).any fun x=>decide (x.name=p[j].name)
  ·rw[hd]at ht;simp only[Bool.false_eq_true,if_false]at ht;rw[aR];have hmem:p[j]∈p:=lν hj;have fl:=fun(k0:au×Int×fH×ae×LD×LD×cf×bu->R) k1 Z (hkk:∀a b c d,k0 (⟨p.map Ac.e⟩,(j:Int),cS p acc,p[j].r,a,b,c,d)=Z)=>Io (m:=n+3*f+4504) (j:Int) (p.length:Int) (p.map Ac.e) p[j].fields ⟨p.map Ac.e⟩ (cS p acc) p[j].r k0 k1 Z hkk (hp.fl _ hmem) p[j].fields.length (n+3*f+4504) 0 [] (by omega) (by have:=hp.fl _ hmem;omega)
   simp only[List.map_nil,List.drop_zero,show((0:Nat):Int)=0 from rfl]at fl;have hlf:(List.length p[j].r.Fields:Int)=p[j].fields.length:=by show((p[j].fields.map Fe.e).length:Int)=_;rw[lβ]
   rw[hlf];refine Eq.trans (fl _ _ (Rh p (.bad j (-1) (-1) 7)) fun a b c d=>hk1 _ _ _ _ _ _ _ _) ?_
   cases hf:wA [] p[j].fields 0 with
   |none=>
    rw[hf]at ht;simp only[lα]at ht;subst ht;rfl
   |some fs=>
    rw[hf]at ht;simp only at ht;cases hm:nC f p fs j p[j].methods p[j].methods 0 []with
    |none=>rw[hm]at ht;cases ht
    |some om=>
     rw[hm]at ht;have ml:=fun k0 k1 k2 h0 h1=>I3 (n:=n) p hp j (p.length:Int) (p.map Ac.e) p[j] hmem fs (cS p acc) k0 k1 k2 h0 h1 p[j].methods.length (n+3*f+4504) 0 [] om (by omega) (by have:=hp.me _ hmem;omega) (by simp) (by rw[List.drop_zero];exact hm)
     simp only[List.map_nil,List.length_nil,show((0:Nat):Int)=0 from rfl]at ml;have hlm:(List.length p[j].r.Methods:Int)=p[j].methods.length:=by show((p[j].methods.map Me.e).length:Int)=_;rw[lβ]
     simp only[hlm];refine Eq.trans (ml _ _ _ (fun a b c d e f g=>hk2 _ _ _ _ _ _ _) (fun a b c d e f g h=>hk3 _ _ _ _ _ _ _ _)) ?_;cases om with
     |inl e=>simp only[lα]at ht;subst ht;rfl
     |inr l=>
      simp only at ht;have key:=Ki (n:=n) p hp k0 k1 k2 k3 k4 hk0 hk1 hk2 hk3 hk4 e q (j+1) (acc++[l]) o (by omega) (by omega) (by simp;omega) ht;rw[<-key];have htl:List.take l.length (List.drop 0 (l.map cJ))=l.map cJ:=by
       rw[List.drop_zero];have:=List.take_length (l:=l.map cJ);rwa [lβ]at this
      have hb1:Nat.beq (cS p acc).bn (List.length (cS p acc).bs)=true:=by simp[cS]
      have hb2:ce (List.length (cS p acc).bs+[Da.slice 3 (l.map cJ)].length) 24=true:=w8 (by simp[cS];omega) (by decide);simp only[htl,hb1,hb2,aQ];have hi:fH.mk (cS p acc).ty (List.length ((cS p acc).bs++[Da.slice 3 (l.map cJ)])) ((cS p acc).bs++[Da.slice 3 (l.map cJ)])=cS p (acc++[l]):=by
       simp[cS]
      rw[hi,wS (show j<cr by unfold cr;omega)]
  ·rw[hd]at ht;simp only[if_true,lα]at ht;subst ht;rw[aQ,hk0]
def P3 {f n:Nat}(p:List Ac)(hp:SzP p)(b:Bool)(o:An)(hv:Ω (n+3*f+4504) 27 [.p (.agg [.slice 3 (p.map Ac.e)])] []=some (pB b,[]))(ho:o= .bad 0 0 0 1/\b=false\/b=true/\ni f p p 0 []=some o):Ω (n+3*f+4505) 13 [.p (.agg [.slice 3 (p.map Ac.e)])] []=Rh p o:=by
 have key:tW (ct lay0.tab (n+3*f+4504)) (n+3*f+4504) ⟨p.map Ac.e⟩=Rh p o:=by
  unfold tW;have hv':Ω (n+3*f+4504) 27 [.p (au.e ⟨p.map Ac.e⟩)] []=some (pB b,[]):=hv;simp only[aa hv',bk,aF,aC];rcases ho with⟨rfl,rfl⟩|⟨rfl,ht⟩
  ·rfl
  ·rw[Bool.not_true,aR];show itL (kA _ _ _ _ _ _ _) _ (p.map Ac.e,((p.map Ac.e).length:Int),0,⟨p.map Ac.e⟩,fH.mk (p.map Ac.e) 0 [])=_;rw[lβ];exact Ki (n:=n) p hp _ _ _ _ _ (by intros;rfl) (by intros;rfl) (by intros;rfl) (by intros;rfl) (by intros;rfl) p.length (n+3*f+4504) 0 [] o (by omega) (by have:=hp.ty;omega) (by simp) (by rw[List.drop_zero];exact ht)
 cases o with
 |bad t m n e=>exact BR _ ⟨p.map Ac.e⟩ _ key
 |good bs=>exact BR _ ⟨p.map Ac.e⟩ _ key
section
def ext (q:List Ac)(c:CS):CS:={c with pr:=q}
def xe {c:CS}{i e:Int}(h:(gw c i e).er=0):c.er=0:=by
 unfold gw at h;split at h
 ·assumption
 ·exact h
def nk {c:CS}{i:Int}{b:Bool}(h:(cw c i b).er=0):c.er=0:=by
 unfold cw at h;split at h
 ·exact h
 ·exact xe h
def F3 {c:CS}{i:Int}{b:Bool}(h:(cw c i b).er=0):b=true:=by
 unfold cw at h;split at h
 ·assumption
 ·unfold gw at h;split at h
  ·cases h
  ·contradiction
def dO {c:CS}{i:Int}{b:Bool}(h:(cw c i b).er=0):cw c i b=c:=by
 rw[F3 h];rfl
def pi {c:CS}{i e:Int}(he:e≠0):(gw c i e).er≠0:=by
 unfold gw;split
 ·exact he
 ·assumption
def Ys {c:CS}{i:Int}{s:LN}(h:(mq c i s).2.er=0):c.er=0:=by
 unfold mq at h;split at h
 ·exact h
 ·exact xe h
def OQ {c c':CS}{s:LN}{k:Int}(h:jU c s k=some c'):c'.er=c.er:=by
 unfold jU at h;split at h
 ·simp only[lα]at h;rw[<-h]
 ·cases h
variable {x:No}
def ö {c:CS}{i:Int}(h:(qP c i x).er=0):c.er=0:=by
 unfold qP at h;split at h
 ·exact xe h
 split at h
 ·exact xe h
 ·exact h
def e_ {c c':CS}{i k:Int}(h:AX c i x k=some c')(h0:c'.er=0):c.er=0:=by
 unfold AX at h;split at h
 ·rename_i c3 h3;simp only[lα]at h;subst h;have:=Ys h0;rw[OQ h3]at this;exact ö (nk this)
 ·cases h
def PB (c:CS)(i:Int)(x:No)(k:Int):(eP c i x k).er=c.er:=by unfold eP;split<;>rfl
def xl {v:CS->Int->Option (Int×CS)}(hv:∀c k r,v c k=some r->r.2.er=0->c.er=0):∀(l:LI) (c:CS) {r:LI×CS},ep v c l=some r->r.2.er=0->c.er=0
 |[],c,r,h,h0=>by simp only[ep,lα]at h;rw[<-h]at h0;exact h0
 |k::l,c,r,h,h0=>by
  simp only[ep]at h;split at h
  ·cases h
  ·rename_i x c1 h1;split at h
   ·cases h
   ·rename_i xs c2 h2;simp only[lα]at h;rw[<-h]at h0;have a:=xl hv l c1 h2 h0;exact hv _ _ _ h1 a
def Du {v:CS->Int->Bool->Option (Int×CS)}(hv:∀c k d r,v c k d=some r->r.2.er=0->c.er=0):∀(l:LI) (c:CS) (d:Bool) {r:CS},lz v c l d=some r->r.er=0->c.er=0
 |[],c,d,r,h,h0=>by simp only[lz,lα]at h;rw[<-h]at h0;exact h0
 |k::l,c,d,r,h,h0=>by
  simp only[lz]at h;split at h
  ·cases h
  ·rename_i x c1 h1;have a:=Du hv l c1 _ h h0;exact hv _ _ _ _ h1 a
def VF {v:CS->Int->Bool->Option (Int×CS)}(hv:∀c k d r,v c k d=some r->r.2.er=0->c.er=0){c:CS}{i:Int}{r:CS}(h:lA v c i x=some r)(h0:r.er=0):c.er=0:=by
 unfold lA at h;split at h
 ·cases h
 ·rename_i c1 h1;simp only[lα]at h;have:c1.er=0:=by
   rw[<-h]at h0;split at h0
   ·have:=nk h0;exact this
   ·exact h0
  exact Du hv _ _ _ h1 this
def uX:∀(f:Nat) (c:CS) (i:Int) (d:Bool) (r:Int×CS),eE f c i d=some r->r.2.er=0->c.er=0
 |0,c,i,d,r,h,h0=>by simp only[eE]at h;cases h
 |f+1,c,i,d,r,h,h0=>by
  simp only[eE]at h;split at h
  ·cases h
  ·split at h
   ·split at h
    ·cases h
    ·rename_i c1 h1;simp only[lα]at h;rw[<-h]at h0;exact VF (uX f) h1 h0
   ·split at h
    ·cases h
    ·rename_i ks c1 h1;have key:c1.er=0:=by
      split at h
      ·assumption
      ·simp only[lα]at h;rw[<-h]at h0;exact h0
     exact xl (fun c k r=>uX f c k false r) _ _ h1 key
section
variable {p q:List Ac} (hq:∀t m x,sD p t m=some x->sD q t m=some x)
include hq
end
end
def yV {β:Type}{α:Type}[DecidableEq α]:∀(l:List (α×β)) (s t:α) (v:β),
  ((match l.findIdx? (fun(p:α×β)=>decide (s=p.1))with|some j=>l.set j (s,v)|none=>l++[(s,v)]).find? fun p=>decide (t=p.1))=if t=s then some (s,v)else l.find? fun p=>decide (t=p.1)
 |[],s,t,v=>by
  simp only[List.findIdx?_nil,List.nil_append,List.find?_cons,List.find?_nil];by_cases h:t=s<;>simp[h]
 |p::l,s,t,v=>by
  rw[mχ];by_cases h:s=p.1
  ·simp only[h,decide_true,if_true,List.set_cons_zero,List.find?_cons];by_cases ht:t=p.1<;>simp[ht]
  ·simp only[h,decide_false,Bool.false_eq_true,if_false];have ih:=yV l s t v;cases hf:l.findIdx? (fun p=>decide (s=p.1))with
   |none=>
    rw[hf]at ih;simp only[Option.map_none,List.cons_append,List.find?_cons]at ih ⊢
    rw[ih];by_cases ht:t=p.1
    ·subst ht;simp[Ne.symm h]
    ·simp[ht]
   |some j=>
    rw[hf]at ih;simp only[Option.map_some,List.set_cons_succ,List.find?_cons]at ih ⊢
    rw[ih];by_cases ht:t=p.1
    ·subst ht;simp[Ne.symm h]
    ·simp[ht]
def acn {β:Type}(l:List (LN×β))(s t:LN)(v:β):fS (uS l s v) t=if t=s then some v else fS l t:=by
 refine(congrArg (Option.map (·.2)) (yV l s t v)).trans ?_;unfold fS;split<;>rfl
def fX {β:Type}(l:List (Int×β))(s t:Int)(v:β):cj (A4 l s v) t=if t=s then some v else cj l t:=by
 refine(congrArg (Option.map (·.2)) (yV l s t v)).trans ?_;unfold cj;split<;>rfl
def Loc1 (lo:List Pa)(s:LN)(v:Vr):Prop:=v.field=false/\∃j:Nat,v.slot=j/\lo[j]?=some ⟨s,v.kind⟩
def Loc1.mono {lo lo':List Pa}{s:LN}{v:Vr}(h:Loc1 lo s v)(hp:∀(j:Nat) (x:Pa),lo[j]?=some x->lo'[j]?=some x):Loc1 lo' s v:=
 ⟨h.1,by obtain⟨j,h1,h2⟩:=h.2;exact⟨j,h1,hp _ _ h2⟩⟩
def Qr (lo lo':List Pa):Prop:=∀(j:Nat) (x:Pa),lo[j]?=some x->lo'[j]?=some x
structure nS (ns:List No)(c:CS)(b:Nat):Prop where
 sc:∀s v,fS c.sc s=some v->Loc1 c.lo s v
 va:∀i v,cj c.va i=some v->∃j:Nat,i=j/\j<b/\∃x,ns[j]?=some x/\(x.op=2\/x.op=8\/x.op=9)/\(fS c.fs x.name=some v\/Loc1 c.lo x.name v)/\
  (x.op=2->cj c.ki i=some v.kind)/\(x.op≠2->∃(k:Nat) (r:LI),x.kids=(k:Int)::r/\k<b/\cj c.ki (k:Int)=some v.kind)
def nS.le {c:CS}{b b':Nat}(h:nS ns c b)(hb:b<=b'):nS ns c b':=
 ⟨h.sc,fun i v hv=>by
  obtain⟨j,h1,h2,x,h3,h4,h5,h6,h7⟩:=h.va i v hv;exact⟨j,h1,by omega,x,h3,h4,h5,h6,fun hne=>by
   obtain⟨k,r,g1,g2,g3⟩:=h7 hne;exact⟨k,r,g1,by omega,g3⟩⟩⟩
inductive V_ (c:CS)(i:Int)(x:No)(ks:LI):Int->CS->Prop
 |same {k}:x.op≠2->x.op≠8->x.op≠9->V_ c i x ks k c
 |var {v}:x.op=2->np c x.name=some v->V_ c i x ks v.kind {c with va:=A4 c.va i v}
 |lett {y r}:x.op=8->ks=y::r->V_ c i x ks 0 {c with sc:=uS c.sc x.name ⟨y,c.lo.length,false⟩,le:=uS c.le x.name true,lo:=c.lo++[⟨x.name,y⟩],va:=A4 c.va i ⟨y,c.lo.length,false⟩}
 |asg {v r}:x.op=9->ks=v.kind::r->np c x.name=some v->V_ c i x ks 0 {c with va:=A4 c.va i v}
def Yt {c:CS}{i:Int}{s:LN}(h:(mq c i s).2.er=0):∃v,np c s=some v/\mq c i s=(v,{c with va:=A4 c.va i v}):=by
 unfold mq at h ⊢
 cases hf:np c s with
 |some v=>exact⟨v,rfl,rfl⟩
 |none=>rw[hf]at h;exact absurd h (pi (by decide))
def aaF {c:CS}{i e:Int}(h:(wz c i e).er=0):wz c i e=c:=by
 unfold wz at h ⊢
 split
 ·rfl
 ·rename_i hne;rw[if_neg hne]at h;exact absurd h (pi hne)
variable {x:No} {ks:LI}
def aaX {c c':CS}{i k:Int}(h:SF c i x ks=some (k,c'))(h0:c'.er=0):V_ c i x ks k c':=by
 unfold SF at h;by_cases h7:x.op=7
 ·rw[if_pos h7]at h;unfold RA at h;cases hl:sD c.pr x.name x.v.s with
  |none=>
   rw[hl]at h;simp only[lα,lζ]at h;rw[<-h.2]at h0;exact absurd h0 (pi (by decide))
  |some m=>
   rw[hl]at h;match ks,h with
   |a::r,h=>
    simp only[lα,lζ]at h;rw[<-h.2]at h0 ⊢
    rw[dO h0];exact .same (by omega) (by omega) (by omega)
 rw[if_neg h7]at h;by_cases h6:x.op<=6
 ·rw[if_pos h6]at h;unfold yS at h;by_cases h1:x.op=1
  ·rw[if_pos h1]at h;simp only[lα,lζ]at h;rw[<-h.2];exact .same (by omega) (by omega) (by omega)
  rw[if_neg h1]at h;by_cases h3:x.op=3
  ·rw[if_pos h3]at h;simp only[lα,lζ]at h;rw[<-h.2];exact .same (by omega) (by omega) (by omega)
  rw[if_neg h3]at h;by_cases h2:x.op=2
  ·rw[if_pos h2]at h;simp only[lα,lζ]at h;rw[<-h.2]at h0;obtain⟨v,g1,g2⟩:=Yt h0;rw[<-h.1,<-h.2,g2];exact .var h2 g1
  rw[if_neg h2]at h;by_cases h4:x.op=4
  ·rw[if_pos h4]at h;match ks,h with
   |a::r,h=>
    simp only[lα,lζ]at h;rw[<-h.2]at h0 ⊢
    rw[dO h0];exact .same (by omega) (by omega) (by omega)
  rw[if_neg h4]at h;by_cases h5:x.op=5
  ·rw[if_pos h5]at h;match ks,h with
   |a::b::r,h=>
    simp only[lα,lζ]at h;rw[<-h.2]at h0 ⊢
    rw[dO h0];exact .same (by omega) (by omega) (by omega)
  rw[if_neg h5]at h;simp only[lα,lζ]at h;rw[<-h.2]at h0 ⊢
  rw[aaF h0];exact .same (by omega) (by omega) (by omega)
 rw[if_neg h6]at h;cases hs:vI c i x ks with
 |none=>rw[hs]at h;cases h
 |some c1=>
  rw[hs]at h;simp only[lα,lζ]at h;obtain⟨rfl,rfl⟩:=h;unfold vI at hs;by_cases h8:x.op=8
  ·rw[if_pos h8]at hs;match ks,hs with
   |y::r,hs=>
    simp only at hs;have hz:=e_ hs h0;unfold AX at hs;cases hd:jU (cw (qP c i x) i (decide (y=x.v.k))) x.name x.v.k with
    |none=>rw[hd]at hs;cases hs
    |some c2=>
     rw[hd]at hs;simp only[lα]at hs;rw[<-hs]at h0;have e2:=Ys h0;rw[OQ hd]at e2;have hy:=F3 e2;rw[dO e2]at hd;simp only[lε]at hy;have e3:=nk e2;have hl1:qP c i x=c/\DI c x.name≠true:=by
      unfold qP at e3 ⊢
      split
      ·rename_i hdup;rw[if_pos hdup]at e3;exact absurd e3 (pi (by decide))
      ·rename_i hdup;rw[if_neg hdup]at e3;split
       ·rename_i h8';rw[if_pos h8']at e3;exact absurd e3 (pi (by decide))
       ·exact⟨rfl,hdup⟩
     rw[hl1.1]at hd;unfold jU at hd;split at hd
     ·simp only[lα]at hd;subst hd;obtain⟨v,g1,g2⟩:=Yt h0;rw[g2]at hs;have hfs:fS c.fs x.name=none:=by
       cases hg:fS c.fs x.name with
       |none=>rfl
       |some w=>exact absurd (by unfold DI;rw[hg]) hl1.2
      unfold np at g1;simp only[hfs,acn,if_true,lα]at g1;rw[<-hs,<-g1,<-hy];exact .lett h8 rfl
     ·cases hd
  rw[if_neg h8]at hs;by_cases h9:x.op=9
  ·rw[if_pos h9]at hs;match ks,hs with
   |y::r,hs=>
    simp only[lα]at hs;rw[<-hs]at h0 ⊢
    have hb:=F3 h0;rw[dO h0];obtain⟨v,g1,g2⟩:=Yt (nk h0);rw[g2]at hb ⊢
    simp only[lε]at hb;exact .asg h9 (by rw[hb]) g1
  rw[if_neg h9]at hs;have hsame:c1=c:=by
   by_cases h11:x.op=11\/x.op=12
   ·rw[if_pos h11]at hs;match ks,hs with
    |y::r,hs=>
     simp only[lα]at hs;rw[<-hs]at h0 ⊢
     exact dO h0
   rw[if_neg h11]at hs;by_cases h13:x.op=13
   ·rw[if_pos h13]at hs;match ks,hs with
    |[],hs=>
     simp only[lα]at hs;rw[<-hs]at h0 ⊢
     exact dO h0
    |y::r,hs=>
     simp only[lα]at hs;rw[<-hs]at h0 ⊢
     rw[dO h0];exact dO (nk h0)
   rw[if_neg h13]at hs;by_cases h15:x.op=15
   ·rw[if_pos h15]at hs;simp only[lα]at hs;rw[<-hs]at h0 ⊢
    exact dO h0
   rw[if_neg h15]at hs;by_cases h16:x.op=16
   ·rw[if_pos h16]at hs;simp only[lα]at hs;rw[<-hs]at h0 ⊢
    exact dO h0
   rw[if_neg h16]at hs;by_cases h17:x.op=17
   ·rw[if_pos h17]at hs;match ks,hs with
    |y::r,hs=>
     simp only[lα]at hs;rw[<-hs]at h0 ⊢
     exact dO h0
   rw[if_neg h17]at hs;simp only[lα]at hs;exact hs.symm
  subst hsame;exact .same (by omega) h8 h9
structure Kp (c c':CS)(b:Nat):Prop where
 lo:Qr c.lo c'.lo
 ki:∀j:Nat,j<b->cj c'.ki (j:Int)=cj c.ki (j:Int)
def Kp.refl (c:CS)(b:Nat):Kp c c b:=⟨fun _ _ h=>h,fun _ _=>rfl⟩
def Kp.trans {a b c:CS}{k k':Nat}(h:Kp a b k)(g:Kp b c k')(hk:k<=k'):Kp a c k:=⟨fun j x hx=>g.lo j x (h.lo j x hx),fun j hj=>(g.ki j (by omega)).trans (h.ki j hj)⟩
def y6 (lo:List Pa)(x:Pa):Qr lo (lo++[x]):=fun j y h=>by
 have:j<lo.length:=by
  rcases mα j lo.length with h1|h1
  ·exact h1
  ·rw[lπ h1]at h;cases h
 rw[lι this];exact h
def sw (c:CS)(i:Int)(x:No)(k:Int)(j:Int):cj (eP c i x k).ki j=if x.op<=7/\j=i then some k else cj c.ki j:=by
 unfold eP;by_cases h:x.op<=7
 ·rw[if_pos h,fX];by_cases hj:j=i<;>simp[h,hj]
 ·rw[if_neg h,if_neg (fun g=>h g.1)]
def CB (c:CS)(i:Int)(x:No)(k:Int):(eP c i x k).va=c.va/\(eP c i x k).sc=c.sc/\(eP c i x k).lo=c.lo/\(eP c i x k).fs=c.fs:=by
 unfold eP;split<;>exact⟨rfl,rfl,rfl,rfl⟩
def O6 {c:CS}{b:Nat}{s:LN}{v:Vr}(h:nS ns c b)(hf:np c s=some v):fS c.fs s=some v\/Loc1 c.lo s v:=by
 unfold np at hf;cases hg:fS c.fs s with
 |some w=>rw[hg]at hf;left;exact hf
 |none=>rw[hg]at hf;right;exact h.sc _ _ hf
def Xd {c c':CS}{i:Nat}{k:Int}(hx:ns[i]?=some x)(h:nS ns c i)(hr:V_ c i x ks k c')(hk:∀y r,ks=y::r->x.op=8\/x.op=9->∃(q:Nat) (t:LI),x.kids=(q:Int)::t/\q<i/\cj c.ki (q:Int)=some y):nS ns (eP c' i x k) (i+1)/\Kp c (eP c' i x k) i/\(x.op<=7->cj (eP c' i x k).ki (i:Int)=some k):=by
 obtain⟨n1,n2,n3,n4⟩:=CB c' i x k;have hki:c'.ki=c.ki:=by cases hr<;>rfl
 have hlo:Qr c.lo c'.lo:=by cases hr<;>first|exact fun _ _ h=>h|exact y6 _ _
 have hfs:c'.fs=c.fs:=by cases hr<;>rfl
 have hnew:∀j:Nat,j<i->cj (eP c' i x k).ki (j:Int)=cj c.ki (j:Int):=fun j hj=>by
  rw[sw,if_neg (by omega),hki]
 have hloc:∀s v,Loc1 c.lo s v->Loc1 c'.lo s v:=fun s v g=>g.mono hlo
 refine⟨⟨?_,?_⟩,⟨by rw[n3];exact hlo,hnew⟩,fun h7=>by rw[sw,if_pos ⟨h7,rfl⟩]⟩
 ·rw[n2,n3];cases hr with
  |same=>exact h.sc
  |var=>exact h.sc
  |asg=>exact h.sc
  | @lett y r h8 hks=>
   intro s v hv;simp only[acn]at hv;split at hv
   ·rename_i e;simp only[lα]at hv;subst hv e;exact⟨rfl,_,rfl,by simp⟩
   ·exact(h.sc _ _ hv).mono (y6 _ _)
 ·rw[n1,n3,n4,hfs];have old:∀j v,cj c.va j=some v->∃q:Nat,j=q/\q<i+1/\∃z,ns[q]?=some z/\(z.op=2\/z.op=8\/z.op=9)/\(fS c.fs z.name=some v\/Loc1 c'.lo z.name v)/\
    (z.op=2->cj (eP c' i x k).ki j=some v.kind)/\(z.op≠2->∃(e:Nat) (r:LI),z.kids=(e:Int)::r/\e<i+1/\cj (eP c' i x k).ki (e:Int)=some v.kind):=by
   intro j v hv;obtain⟨q,g1,g2,z,g3,g4,g5,g6,g7⟩:=h.va j v hv;subst g1;refine⟨q,rfl,by omega,z,g3,g4,g5.imp_right (hloc _ _),fun h2=>by rw[hnew q g2];exact g6 h2,fun h2=>?_⟩
   obtain⟨e,r,e1,e2,e3⟩:=g7 h2;exact⟨e,r,e1,by omega,by rw[hnew e e2];exact e3⟩
  cases hr with
  |same=>exact old
  | @var v h2 hf=>
   intro j w hw;simp only[fX]at hw;split at hw
   ·rename_i e;simp only[lα]at hw;subst hw e;exact⟨i,rfl,by omega,x,hx,.inl h2,O6 h hf,fun _=>by rw[sw,if_pos ⟨by omega,rfl⟩],fun hne=>absurd h2 hne⟩
   ·exact old j w hw
  | @asg v r h9 hks hf=>
   intro j w hw;simp only[fX]at hw;split at hw
   ·rename_i e;simp only[lα]at hw;subst hw e;obtain⟨q,t,g1,g2,g3⟩:=hk _ _ hks (.inr h9);exact⟨i,rfl,by omega,x,hx,.inr (.inr h9),O6 h hf,fun h2=>by omega,fun _=>⟨q,t,g1,by omega,by rw[hnew q g2];exact g3⟩⟩
   ·exact old j w hw
  | @lett y r h8 hks=>
   intro j w hw;simp only[fX]at hw;split at hw
   ·rename_i e;simp only[lα]at hw;subst hw e;obtain⟨q,t,g1,g2,g3⟩:=hk _ _ hks (.inl h8);exact⟨i,rfl,by omega,x,hx,.inr (.inl h8),.inr ⟨rfl,_,rfl,by simp⟩,fun h2=>by omega,fun _=>⟨q,t,g1,by omega,by rw[hnew q g2];exact g3⟩⟩
   ·exact old j w hw
def Cj {i:Nat}(h:ns[i]?=some x):i<ns.length:=by
 rcases mα i ns.length with h1|h1
 ·exact h1
 ·rw[lπ h1]at h;cases h
def ť (ns:List No)(f:Nat):Prop:=∀(lo i:Nat),To ns lo i->∀(c:CS) (d:Bool) (k:Int) (c':CS),c.ns=ns->eE f c (i:Int) d=some (k,c')->c'.er=0->nS ns c lo->nS ns c' (i+1)/\Kp c c' lo/\(∀x,ns[i]?=some x->x.op<=7->cj c'.ki (i:Int)=some k)
def Ix {ns:List No}{f:Nat}(hv:ť ns f):∀(l:LI) (lo hi:Nat),Ch ns lo l hi->∀(c:CS) (ks:LI) (c':CS),c.ns=ns->ep (fun c k=>eE f c k false) c l=some (ks,c')->c'.er=0->nS ns c lo->nS ns c' hi/\Kp c c' lo/\
  (∀y r,ks=y::r->∃(q:Nat) (t:LI),l=(q:Int)::t/\q<hi/\(∀x,ns[q]?=some x->x.op<=7->cj c'.ki (q:Int)=some y))
 |[],lo,hi,h,c,ks,c',hc,hk,h0,hi'=>by
  cases h;simp only[ep,lα,lζ]at hk;obtain⟨rfl,rfl⟩:=hk;exact⟨hi',Kp.refl _ _,fun y r e=>by cases e⟩
 |_::l,lo,hi,h,c,ks,c',hc,hk,h0,hi'=>by
  cases h with
  | @cons _ q _ _ h1 h2=>
   simp only[ep]at hk;cases e1:eE f c (q:Int) false with
   |none=>rw[e1]at hk;cases hk
   |some r1=>
    obtain⟨y,c1⟩:=r1;rw[e1]at hk;simp only at hk;cases e2:ep (fun c k=>eE f c k false) c1 l with
    |none=>rw[e2]at hk;cases hk
    |some r2=>
     obtain⟨ys,c2⟩:=r2;rw[e2]at hk;simp only[lα,lζ]at hk;obtain⟨rfl,rfl⟩:=hk;have z1:c1.er=0:=xl (fun c k r e=>uX f c k false r e) l c1 e2 h0;have s1:=eT f c q false _ e1;obtain⟨a1,a2,a3⟩:=hv lo q h1 c false y c1 hc e1 z1 hi';obtain⟨b1,b2,b3⟩:=Ix hv l (q+1) hi h2 c1 ys c2 (s1.ns.trans hc) e2 h0 a1;have l1:=h1.le;have l2:=h2.le;refine⟨b1,a2.trans b2 (by omega),fun y' r e=>?_⟩
     simp only[lτ]at e;obtain⟨rfl,_⟩:=e;exact⟨q,l,rfl,by omega,fun x hx ho=>by rw[b2.ki q (by omega)];exact a3 x hx ho⟩
def Ox {ns:List No}{f:Nat}(hv:ť ns f):∀(l:LI) (lo hi:Nat),Ch ns lo l hi->∀(c:CS) (d:Bool) (c':CS),c.ns=ns->lz (eE f) c l d=some c'->c'.er=0->nS ns c lo->nS ns c' hi/\Kp c c' lo
 |[],lo,hi,h,c,d,c',hc,hk,h0,hi'=>by
  cases h;simp only[lz,lα]at hk;subst hk;exact⟨hi',Kp.refl _ _⟩
 |_::l,lo,hi,h,c,d,c',hc,hk,h0,hi'=>by
  cases h with
  | @cons _ q _ _ h1 h2=>
   simp only[lz]at hk;cases e1:eE f c (q:Int) d with
   |none=>rw[e1]at hk;cases hk
   |some r1=>
    obtain⟨y,c1⟩:=r1;rw[e1]at hk;simp only at hk;have z1:c1.er=0:=Du (fun c k d r e=>uX f c k d r e) l c1 _ hk h0;have s1:=eT f c q d _ e1;obtain⟨a1,a2,_⟩:=hv lo q h1 c d y c1 hc e1 z1 hi';obtain⟨b1,b2⟩:=Ox hv l (q+1) hi h2 c1 _ c' (s1.ns.trans hc) hk h0 a1;have l1:=h1.le;exact⟨b1,a2.trans b2 (by omega)⟩
def xD {ns:List No}(hb:∀x∈ns,x.op=8\/x.op=9->∀k∈x.kids,∀y,dL ns k=some y->y.op<=7):∀f,ť ns f
 |0,lo,i,hs,c,d,k,c',hc,h,h0,hi=>by simp[eE]at h
 |f+1,lo,i,hs,c,d,k,c',hc,h,h0,hi=>by
  have hle:=hs.le;cases hs with
  | @mk _ _ x hx hch=>
   have hx':dL c.ns (i:Int)=some x:=by rw[hc,cd];exact hx
   have hxm:x∈ns:=lξ hx;simp only[eE,hx']at h;by_cases h18:x.op=18
   ·rw[if_pos h18]at h;unfold lA at h;cases e1:lz (eE f) c x.kids false with
    |none=>rw[e1]at h;cases h
    |some c1=>
     rw[e1]at h;simp only[lα,lζ]at h;have hfin:c'={c1 with sc:=c.sc}:=by
      rw[<-h.2];split
      ·rename_i he;rw[<-h.2,if_pos he]at h0;exact dO h0
      ·rfl
     have z1:c1.er=0:=by rw[hfin]at h0;exact h0
     obtain⟨a1,a2⟩:=Ox (xD hb f) x.kids lo i hch c false c1 hc e1 z1 hi;rw[hfin];refine⟨⟨fun s v hv=>(hi.sc s v hv).mono a2.lo,(a1.le (Nat.le_succ i)).va⟩,⟨a2.lo,a2.ki⟩,fun y hy ho=>?_⟩
     rw[hx]at hy;simp only[lα]at hy;subst hy;omega
   ·rw[if_neg h18]at h;cases e1:ep (fun c k=>eE f c k false) c x.kids with
    |none=>rw[e1]at h;cases h
    |some r1=>
     obtain⟨ks,c1⟩:=r1;rw[e1]at h;simp only at h;by_cases z1:c1.er=0
     ·rw[if_pos z1]at h;cases e2:SF c1 (i:Int) x ks with
      |none=>rw[e2]at h;cases h
      |some r2=>
       obtain⟨k2,c2⟩:=r2;rw[e2]at h;simp only[lα,lζ]at h;obtain⟨rfl,rfl⟩:=h;rw[PB]at h0;rw[dO h0];have z2:=nk h0;obtain⟨a1,a2,a3⟩:=Ix (xD hb f) x.kids lo i hch c ks c1 hc e1 z1 hi;obtain⟨b1,b2,b3⟩:=Xd hx a1 (aaX e2 z2) (fun y r e ho=>by
        obtain⟨q,t,g1,g2,g3⟩:=a3 y r e;have hq:ns[q]?≠none:=by
         have:=Cj hx;rw[lδ (by omega)];simp
        cases hz:ns[q]? with
        |none=>exact absurd hz hq
        |some z=>
         refine⟨q,t,g1,g2,g3 z hz (hb x hxm ho (q:Int) (by rw[g1];exact lη ..) z (by rw[cd];exact hz))⟩)
       refine⟨b1,a2.trans b2 hch.le,fun y hy ho=>?_⟩
       rw[hx]at hy;simp only[lα]at hy;subst hy;exact b3 ho
     ·rw[if_neg z1]at h;simp only[lα,lζ]at h;rw[<-h.2]at h0;exact absurd h0 z1
def Fh {ns:List No}:∀(l:List Pa) (c c':CS),mc c l=some (some c')->nS ns c 0->nS ns c' 0
 |[],c,c',h,hi=>by
  simp only[mc,lα]at h;subst h;exact hi
 |p::l,c,c',h,hi=>by
  simp only[mc]at h;split at h
  ·cases h
  ·cases hd:jU c p.name p.kind with
   |none=>rw[hd]at h;cases h
   |some c1=>
    rw[hd]at h;refine Fh l c1 c' h ?_;unfold jU at hd;split at hd
    ·simp only[lα]at hd;subst hd;refine⟨fun s v hv=>?_,fun i v hv=>?_⟩
     ·simp only[acn]at hv;split at hv
      ·rename_i e;simp only[lα]at hv;subst hv e;exact⟨rfl,_,rfl,by simp⟩
      ·exact(hi.sc _ _ hv).mono (y6 _ _)
     ·obtain⟨j,_,g,_⟩:=hi.va i v hv;omega
    ·cases hd
variable {fs:List (LN×Vr)}
def RG {f:Nat}{pr:List Ac}{m:Me}{c:CS}(h:eX f pr fs m=some (some c))(h0:c.er=0)(hb:lu m.nodes):nS m.nodes c m.nodes.length/\c.fs=fs:=by
 unfold eX at h;cases hp:mc (CS.init pr fs m) m.params with
 |none=>rw[hp]at h;cases h
 |some o=>
  cases o with
  |none=>rw[hp]at h;cases h
  |some c1=>
   rw[hp]at h;simp only at h;obtain⟨k,hs,hk⟩:=hb.tree;have he:((m.nodes.length:Int) - 1)=(k:Int):=by omega
   rw[he]at h;cases hv:eE f c1 (k:Int) false with
   |none=>rw[hv]at h;cases h
   |some r=>
    obtain⟨y,c2⟩:=r;rw[hv]at h;simp only[lα]at h;subst h;have hst:=j5 _ _ hp;have h1:nS m.nodes c1 0:=Fh _ _ _ hp ⟨fun s v hv=>by simp[CS.init,fS]at hv,fun i v hv=>by simp[CS.init,cj]at hv⟩
    obtain⟨a1,_,_⟩:=xD hb.lets f 0 k hs c1 false y c2 hst.ns hv h0 h1;have hst2:=eT _ _ _ _ _ hv;exact⟨hk▸a1,hst2.fs.trans hst.fs⟩
def WY (all:List Fe):∀(l:List Fe) (k:Nat) (acc fs:List (LN×Vr)),all.drop k=l->wA acc l k=some fs->(∀s v,fS acc s=some v->v.field=true/\∃(j:Nat) (f:Fe),v.slot=j/\all[j]?=some f/\f.name=s/\f.kind=v.kind)->
  ∀s v,fS fs s=some v->v.field=true/\∃(j:Nat) (f:Fe),v.slot=j/\all[j]?=some f/\f.name=s/\f.kind=v.kind
 |[],k,acc,fs,hd,h,ha=>by
  simp only[wA,lα]at h;subst h;exact ha
 |x::l,k,acc,fs,hd,h,ha=>by
  simp only[wA]at h;have hlt:k<all.length:=by
   rcases mα k all.length with h1|h1
   ·exact h1
   ·rw[qζ h1]at hd;cases hd
  rw[lχ hlt]at hd;simp only[lτ]at hd;cases hg:fS acc x.name with
  |some w=>rw[hg]at h;cases h
  |none=>
   rw[hg]at h;refine WY all l (k+1) _ fs hd.2 h fun s v hv=>?_
   rw[acn]at hv;split at hv
   ·rename_i e;simp only[lα]at hv;subst hv;exact⟨rfl,k,x,rfl,by rw[lδ hlt,hd.1],e.symm,rfl⟩
   ·exact ha s v hv
def I2 {f:Nat}{p:List Ac}{fs:List (LN×Vr)}{i:Nat}{all:List Me}:∀(r:List Me) (j:Nat) (acc l:List CS),nC f p fs i all r j acc=some (.inr l)->∃l',l=acc++l'/\l'.length=r.length/\∀(q:Nat) c,l'[q]?=some c->∃m,r[q]?=some m/\eX f p fs m=some (some c)/\c.er=0
 |[],j,acc,l,h=>by
  simp only[nC,lα,Sum.inr.injEq]at h;exact⟨[],by simp[h],rfl,fun q c hc=>by simp at hc⟩
 |m::r,j,acc,l,h=>by
  simp only[nC]at h;split at h
  ·cases h
  ·cases hc:eX f p fs m with
   |none=>rw[hc]at h;cases h
   |some o=>
    cases o with
    |none=>rw[hc]at h;cases h
    |some c=>
     rw[hc]at h;simp only at h;split at h
     ·rename_i h0;obtain⟨l',g1,g2,g3⟩:=I2 r (j+1) (acc++[c]) l h;refine⟨c::l',by rw[g1];simp,by simp[g2],fun q c' hq=>?_⟩
      cases q with
      |zero=>
       simp only[List.getElem?_cons_zero,lα]at hq;subst hq;exact⟨m,rfl,hc,h0⟩
      |succ q=>
       simp only[List.getElem?_cons_succ]at hq ⊢
       exact g3 q c' hq
     ·cases h
def Pt {f:Nat}{p:List Ac}{fs:List (LN×Vr)}{i:Nat}{all:List Me}{bs:List (List CS)}:∀(r:List Me) (j:Nat) (acc:List CS),¬nC f p fs i all r j acc=some (.inl (.good bs))
 |[],j,acc,h=>by simp[nC]at h
 |m::r,j,acc,h=>by
  simp only[nC]at h;split at h
  ·cases h
  ·split at h
   ·cases h
   ·cases h
   ·split at h
    ·exact Pt r _ _ h
    ·cases h
def tP {f:Nat}{p:List Ac}:∀(r:List Ac) (j:Nat) (acc bs:List (List CS)),ni f p r j acc=some (.good bs)->∃l',bs=acc++l'/\l'.length=r.length/\∀(q:Nat) l,l'[q]?=some l->∃a fs,r[q]?=some a/\wA [] a.fields 0=some fs/\l.length=a.methods.length/\∀(w:Nat) c,l[w]?=some c->∃m,a.methods[w]?=some m/\eX f p fs m=some (some c)/\c.er=0
 |[],j,acc,bs,h=>by
  simp only[ni,lα,An.good.injEq]at h;exact⟨[],by simp[h],rfl,fun q c hc=>by simp at hc⟩
 |a::r,j,acc,bs,h=>by
  simp only[ni]at h;split at h
  ·cases h
  ·cases hf:wA [] a.fields 0 with
   |none=>rw[hf]at h;cases h
   |some fs=>
    rw[hf]at h;simp only at h;cases hm:nC f p fs j a.methods a.methods 0 []with
    |none=>rw[hm]at h;cases h
    |some o=>
     cases o with
     |inl e=>
      rw[hm]at h;simp only[lα]at h;subst h;exact absurd hm (Pt _ _ _)
     |inr l=>
      rw[hm]at h;simp only at h;obtain⟨l',g1,g2,g3⟩:=tP r (j+1) (acc++[l]) bs h;refine⟨l::l',by rw[g1];simp,by simp[g2],fun q l0 hq=>?_⟩
      cases q with
      |zero=>
       simp only[List.getElem?_cons_zero,lα]at hq;subst hq;obtain⟨l1,k1,k2,k3⟩:=I2 a.methods 0 [] l hm;simp only[List.nil_append]at k1;subst k1;exact⟨a,fs,rfl,hf,k2,k3⟩
      |succ q=>
       simp only[List.getElem?_cons_succ]at hq ⊢
       exact g3 q l0 hq
def cU (bs:List (List CS))(t m:Int):Option CS:=match dL bs t with|some l=>dL l m|none=>none
def mY {α:Type}{l:List α}{i:Int}{x:α}(h:dL l i=some x):∃j:Nat,i=j/\l[j]?=some x:=by
 unfold dL at h;split at h
 ·exact⟨i.toNat,by omega,h⟩
 ·cases h
variable {bs:List (List CS)}
def Yd {p:List Ac}(hv:∀a∈p,∀m∈a.methods,lu m.nodes)(ht:ni 1501 p p 0 []=some (.good bs)){t m n:Int}{c:CS}{v:Vr}(hb:cU bs t m=some c)(hn:cj c.va n=some v):
  ∃a me x,dL p t=some a/\dL a.methods m=some me/\dL me.nodes n=some x/\
   (v.field=true/\(∃f,dL a.fields v.slot=some f/\f.name=x.name/\f.kind=v.kind)\/v.field=false/\∃pa,dL c.lo v.slot=some pa/\pa.name=x.name/\pa.kind=v.kind)/\
   (x.op=2->cj c.ki n=some v.kind)/\(x.op≠2->∃k r,x.kids=k::r/\cj c.ki k=some v.kind):=by
 obtain⟨l',g1,g2,g3⟩:=tP p 0 [] bs ht;simp only[List.nil_append]at g1;subst g1;unfold cU at hb;cases hl:dL bs t with
 |none=>rw[hl]at hb;cases hb
 |some l=>
  rw[hl]at hb;obtain⟨tn,rfl,hl2⟩:=mY hl;obtain⟨mn,rfl,hm2⟩:=mY hb;obtain⟨a,fs,ha,hf,_,hcs⟩:=g3 tn l hl2;obtain⟨me,hme,hck,h0⟩:=hcs mn c hm2;have hbo:=hv a (lξ ha) me (lξ hme);obtain⟨hinv,hfs⟩:=RG hck h0 hbo;obtain⟨j,rfl,hj,x,hx,hop,hvar,hk1,hk2⟩:=hinv.va n v hn;refine⟨a,me,x,by rw[cd];exact ha,by rw[cd];exact hme,by rw[cd];exact hx,?_,hk1,fun hne=>?_⟩
  ·rcases hvar with hvar|⟨e1,q,e2,e3⟩
   ·left;rw[hfs]at hvar;obtain⟨f1,q,f,f2,f3,f4,f5⟩:=WY a.fields a.fields 0 [] fs rfl hf (fun s v hv=>by simp[fS]at hv) _ _ hvar;exact⟨f1,f,by rw[f2,cd];exact f3,f4,f5⟩
   ·right;exact⟨e1,_,by rw[e2,cd];exact e3,rfl,rfl⟩
  ·obtain⟨k,r,e1,_,e3⟩:=hk2 hne;exact⟨k,r,e1,e3⟩
structure Tp (p:List Ac):Prop where
 ty:p.length<1501
 ac:∀a∈p,SzA a
def Tp.p {p:List Ac}(h:Tp p):SzP p:=⟨h.ty,fun a ha=>(h.ac a ha).me,fun a ha=>(h.ac a ha).fl,fun a ha m hm=>⟨((h.ac a ha).mm m hm).ns,fun x hx=>(((h.ac a ha).mm m hm).nx x hx).ks,((h.ac a ha).mm m hm).ps⟩⟩
def Pu {p:List Ac}{fs:List (LN×Vr)}{i:Nat}{all:List Me}:∀(r:List Me) (j:Nat) (acc:List CS),(∀m∈r,lu m.nodes/\m.nodes.length<1501/\m.params.length<1501)->∃o,nC 1501 p fs i all r j acc=some o
 |[],j,acc,_=>⟨_,rfl⟩
 |m::r,j,acc,h=>by
  obtain⟨h1,h2,h3⟩:=h m (lη ..);simp only[nC];split
  ·exact⟨_,rfl⟩
  ·obtain⟨o,ho⟩:=RF p fs m h1 h2 h3;rw[ho];cases o with
   |none=>exact⟨_,rfl⟩
   |some c=>
    simp only;split
    ·exact Pu r (j+1) _ fun m hm=>h m (lρ _ hm)
    ·exact⟨_,rfl⟩
def PV {p:List Ac}:∀(r:List Ac) (j:Nat) (acc:List (List CS)),(∀a∈r,∀m∈a.methods,lu m.nodes/\m.nodes.length<1501/\m.params.length<1501)->∃o,ni 1501 p r j acc=some o
 |[],j,acc,_=>⟨_,rfl⟩
 |a::r,j,acc,h=>by
  simp only[ni];split
  ·exact⟨_,rfl⟩
  ·cases wA [] a.fields 0 with
   |none=>exact⟨_,rfl⟩
   |some fs=>
    obtain⟨o,ho⟩:=Pu (p:=p) (fs:=fs) (i:=j) (all:=a.methods) a.methods 0 [] (h a (lη ..));simp only[ho];cases o with
    |inl e=>exact⟨_,rfl⟩
    |inr l=>exact PV r (j+1) _ fun b hb=>h b (lρ _ hb)
def Oo (p:List Ac):An:=bif je p then(ni 1501 p p 0 []).getD (.bad 0 0 0 1)else .bad 0 0 0 1
def Oq {p:List Ac}(h:Oo p= .good bs):je p=true/\ni 1501 p p 0 []=some (.good bs):=by
 unfold Oo at h;cases hv:je p with
 |false=>rw[hv]at h;cases h
 |true=>
  rw[hv]at h;simp only[cond_true]at h;cases ht:ni 1501 p p 0 []with
  |none=>rw[ht]at h;cases h
  |some o=>rw[ht]at h;simp only[Option.getD_some]at h;rw[h];exact⟨rfl,rfl⟩
def Th {p:List Ac}(hp:Tp p)(hv:je p=true):∃o,ni 1501 p p 0 []=some o:=
 PV p 0 [] fun a ha m hm=>⟨((Kl hv).2 a ha m hm).1,((hp.ac a ha).mm m hm).ns,((hp.ac a ha).mm m hm).ps⟩
abbrev pD (p:List Ac):D:= .p (.agg [.slice 3 (p.map Ac.e)])
def aad {n:Nat}(p:List Ac)(hp:Tp p):Ω (n+9008) 13 [pD p] []=Rh p (Oo p):=by
 have hv:=TT (n:=n+7496) p (fun a ha=>(hp.ac a ha).b) (by omega);refine P3 (f:=1501) (n:=n) p hp.p (je p) (Oo p) hv ?_;unfold Oo;cases h:je p with
 |false=>exact .inl ⟨rfl,rfl⟩
 |true=>
  obtain⟨o,ho⟩:=Th hp h;exact .inr ⟨rfl,by rw[ho];rfl⟩
def An.pl:An->bb| .bad t m n _=>⟨t,m,n⟩| .good _=>⟨0,0,0⟩
def An.er:An->Int| .bad _ _ _ e=>e| .good _=>0
def abt (c:fH)(K:fH->R):ON c.hp K=K c:=rfl
def dPl (t m n:Int)(K:bb->R):gv (plD t m n) K=K ⟨t,m,n⟩:=rfl
def abs (i o:Nat)(a b:R):iL (D6 (.box i o)) a b=a:=rfl
def abr (x:Da)(a b:R):iL (D6 (.p x)) a b=b:=rfl
def dBx (i o:Nat)(K:R):wu i o (.box i o) K=K:=by unfold wu;simp;rfl
def abu (K:R):dNp .nilptr K=K:=rfl
def ő {n:Nat}{p:List Ac}(hp:Tp p){t m k e:Int}(ha:Oo p= .bad t m k e)(K:KV):ct lay0.tab (n+9008) 13 [pD p] [] K=K (.tup [.p .nilptr,.p (plD t m k),pI e]) []:=aa ((aad p hp).trans (by rw[ha];rfl)) K
def YI {n:Nat}{p:List Ac}(hp:Tp p)(ha:Oo p= .good bs)(K:KV):ct lay0.tab (n+9008) 13 [pD p] [] K=K (.tup [.box 0 0,.p (plD 0 0 0),pI 0]) (cS p bs).hp:=aa ((aad p hp).trans (by rw[ha];rfl)) K
def abv (u:bb)(K:bb->R):gv u.e K=K u:=rfl
variable {m:Nat}
def bl {c:Nat}(h:c+1<=m):∃k,m=k+1/\c<=k:=⟨m - 1,by omega,by omega⟩
def ji (n:Int):Prop:= -9223372036854775808<=n/\n<=9223372036854775807
def Tk (n:Int):aq .i64 n=IntKind.i64.wrap n:= @iX ⟨fun _=>0⟩ .i64 n
def ġ (n:Int):ji (aq .i64 n):=by
 rw[Tk,IntKind.wrap_i64];unfold ji;omega
structure Wk (v:Va):Prop where
 n:ji v.n
 i:∀x∈v.I,ji x
 s:v.s.length<=64
 I:v.I.length<=16
 L:v.L.length<=16
 e:∀t∈v.L,t.length<=64
 k4:v.k=4->v.L=[]
 kn:v.k≠4->v.I=[]
 k3:v.k≠3->v.s=[]
def rAr (r:Int×Int):R:=some (.tup [pI r.1,pI r.2],[])
def ccZ:ab:=fun _ _ _ _=>none
def TA (P:Int×Int->Prop)(G:R):Prop:=∃r,G=rAr r/\P r
def Zr {P:Int×Int->Prop}{b:Bool}{A B:R}(h:b=true->TA P A)(g:b=false->TA P B):TA P (iL b A B):=by cases b;exact g rfl;exact h rfl
variable {x:Int}
def ě (y:Int)(h:ji x):ji (Int.tmod x y):=by
 unfold ji at h ⊢
 rcases Int.le_total 0 x with hx|hx
 ·have:=Int.tmod_nonneg y hx;have h2:Int.tmod x y<=x:=by
   have:=Int.natAbs_tmod x y;have h3:=Nat.mod_le x.natAbs y.natAbs;omega
  omega
 ·have h2:x<=Int.tmod x y/\Int.tmod x y<=0:=by
   have:=Int.natAbs_tmod x y;have h3:=Nat.mod_le x.natAbs y.natAbs;have h4:Int.tmod x y<=0:=by
    have:=Int.tmod_nonneg y (show 0<= -x by omega);rw[Int.neg_tmod]at this;omega
   omega
  omega
def ĸ (o:LN)(y:Int)(hx:ji x):TA (fun r=>ji r.1) (rk ccZ 0 o x y):=by
 have w (a b:Int) (h:ji a):TA (fun r=>ji r.1) (rAr (a,b)):=⟨_,rfl,h⟩;have z:ji 0:=by unfold ji;omega
 unfold rk qo qp qq;repeat' (refine Zr (fun _=>?_) (fun _=>?_))
 all_goals first|exact w _ _ z|exact w _ _ (ġ _)|exact w _ _ (ě _ hx)|simp_all
def X_ (o:LN)(x y:Int):Int×Int:=Classical.epsilon fun r=>rk ccZ 0 o x y=rAr r/\ji r.1
def Gf (o:LN)(x y:Int)(hx:ji x)(hm:1<=m):Ω m 160 [pS o,pI x,pI y] []=rAr (X_ o x y):=by
 obtain⟨m,rfl,-⟩:=bl hm;apply UW m o x y;exact(Classical.epsilon_spec (ĸ o y hx)).1
def Ī (o:LN)(y:Int)(hx:ji x):ji (X_ o x y).1:=(Classical.epsilon_spec (ĸ o y hx)).2
def pR (v:Va)(K:ah->R):ag (.agg v.c) K=K v.r:=rfl
def Va.e (v:Va):Da:= .agg v.c
def Rp (b:Bool):Va:=⟨2,bif b then 1 else 0,[],[],[]⟩
def W9 (n:Int):Va:=⟨1,n,[],[],[]⟩
def vE (r:Va×Int):R:=some (.tup [.p r.1.e,pI r.2],[])
def xJ (b:Bool)(hm:1<=m):Ω m 159 [pB b] []=some (.p (Rp b).e,[]):=by
 obtain⟨m,rfl,-⟩:=bl hm;apply Lu m b;cases b<;>rfl
def qh (n:Int)(hm:1<=m):Ω m 161 [pI n] []=some (.p (W9 n).e,[]):=by
 obtain⟨m,rfl,-⟩:=bl hm;apply Lv m n;rfl
def S_ (o:LN)(v:Va):Va×Int:=bif be o [33]then(Rp (az v.n 0),0)else(W9 (X_ [45] 0 v.n).1,(X_ [45] 0 v.n).2)
def Tl:ji 0:=by unfold ji;omega
def T0 (o:LN)(v:Va)(hm:2<=m):Ω m 113 [pS o,.p v.e] []=vE (S_ o v):=by
 replace hm:=bl hm;obtain⟨m,rfl,hm⟩:=hm;apply UX m o v.r;unfold GQ S_;cases be o [33]with
 |true=>
  simp only[aQ,aa (xJ (m:=m) (az v.r.N 0) hm),bk,aC,Va.e,pR,cond_true];rfl
 |false=>
  have e:=Gf (m:=m) [45] 0 v.n Tl hm;unfold rAr at e;simp only[aR,show v.r.N=v.n from rfl,aa e,bt,bJ,bk,cb,aC,aa (qh (m:=m) _ hm),Va.e,pR,cond_false];rfl
def Sn (a b:Va):Bool:=bif az a.k 3 then ü a.s b.s else aP a.n b.n
def YW (a b:Va)(hm:1<=m):Ω m 163 [.p a.e,.p b.e] []=some (pB (Sn a b),[]):=by
 replace hm:=bl hm;obtain⟨m,rfl,hm⟩:=hm;apply Zk m a.r b.r;unfold N6 Sn;show iL (az a.k 3) _ _=_;cases az a.k 3<;>rfl
def Ż (o:LN)(a b:Va):Va×Int:=
 bif be o [61,61]then(Rp (mh a b),0)else
 bif be o [33,61]then(Rp (!mh a b),0)else
 bif be o [60]then(Rp (Sn a b),0)else
 bif be o [60,61]then(Rp (!Sn b a),0)else
 bif be o [62]then(Rp (Sn b a),0)else
 bif be o [62,61]then(Rp (!Sn a b),0)else
 bif be o [43]&&az a.k 3 then(bif aP 64 (a.s.length+b.s.length:Nat)then(v0,5)else(⟨3,0,a.s++b.s,[],[]⟩,0))else
 (W9 (X_ o a.n b.n).1,(X_ o a.n b.n).2)
def Qp (o:LN)(a b:Va)(ha:Wk a)(hb:Wk b)(hm:1510<=m):Ω m 116 [pS o,.p a.e,.p b.e] []=vE (Ż o a b):=by
 replace hm:=bl hm;obtain⟨m,rfl,hm⟩:=hm;apply Q8 m o a.r b.r;have hI:=ha.I;have hL:=ha.L;have hs:=ha.s;have hs2:=hb.s;have es:=C5 (n:=m - 1504) a b (.inl (by omega)) (.inl (by omega));rw[show m - 1504+1504=m by omega]at es;have es':=aa es;have el:=fun a b=>aa (YW (m:=m) a b (by omega))
 have eb:=fun b=>aa (xJ (m:=m) b (by omega))
 have ei:=fun n=>aa (qh (m:=m) n (by omega))
 have ea:=Gf (m:=m) o a.n b.n ha.n (by omega);unfold rAr at ea;have ea':=aa ea;unfold BJ Ż;simp only[show a.r.e=Da.agg a.c from rfl,show b.r.e=Da.agg b.c from rfl,es',Va.e]at el eb ei ea' ⊢
 simp only[es',el,eb,ei,bk,aF,aC,pR,show a.r.N=a.n from rfl,show b.r.N=b.n from rfl,show a.r.S=a.s from rfl,show b.r.S=b.s from rfl,show a.r.Kind=a.k from rfl,ea',bt,bJ,cb];have hw:aq .i64 ((a.s.length:Int)+(b.s.length:Int))=((a.s.length+b.s.length:Nat):Int):=by rw[gU (by omega) (by omega)];omega
 have hb2:Nat.ble (a.s.length+b.s.length) pz=true:=by rw[Nat.ble_eq];exact mψ (show a.s.length+b.s.length<=128 by omega) (by decide)
 rw[hw,hb2];cases be o [61,61]
 ·cases be o [33,61]
  ·cases be o [60]
   ·cases be o [60,61]
    ·cases be o [62]
     ·cases be o [62,61]
      ·cases be o [43]<;>cases az a.k 3<;>cases aP 64 (a.s.length+b.s.length:Nat)<;>rfl
      ·rfl
     ·rfl
    ·rfl
   ·rfl
  ·rfl
 ·rfl
def qF (v:Va)(k:Int):Bool:=az v.k k&&kg v
def NI (v:Va)(k:Int)(hm:1504<=m):Ω m 38 [.p v.e,pI k] []=some (pB (qF v k),[]):=by
 replace hm:=bl hm;obtain⟨m,rfl,hm⟩:=hm;apply Zj m v.r k;have e:=xK (n:=m - 1503) v;rw[show m - 1503+1503=m by omega]at e;unfold N5 qF;show iL (az v.k k) (ct lay0.tab m 73 [.p (.agg v.c)] [] _) _=_;rw[aa e];simp only[bk,aF,aC,dt,wq]
def fR:List Va->LI->Bool
 |[],[]=>true
 |v::l,k::m=>qF v k&&fR l m
 |_,_=>false
def yX:∀(l:List Va) (m:LI),l.length=m.length->fR l m=(l.zip m).all fun p=>qF p.1 p.2
 |[],[],_=>rfl
 |v::l,k::m,h=>by
  simp only[fR,List.zip_cons_cons,List.all_cons,yX l m (by simpa using h)]
def yW:∀(l:List Va) (m:LI),l.length≠m.length->fR l m=false
 |[],[],h=>absurd rfl h
 |[],_::_,_=>rfl
 |_::_,[],_=>rfl
 |v::l,k::m,h=>by
  simp only[fR,yW l m (by simpa using h),Bool.and_false]
def Ŝ (l:List Va)(ks:LI)(hl:l.length<1501)(hm:1506<=m):Ω m 37 [pL 5 (l.map Va.e),pL 1 (ks.map iE),.p (.fn 38 [])] []=some (pB (fR l ks),[]):=by
 replace hm:=bl hm;obtain⟨m,rfl,hm⟩:=hm;apply Ť m (l.map Va.e) (ks.map iE);unfold Ue;rw[lβ,lβ,bE,iD];by_cases h:(l.length:Int)=(ks.length:Int)
 ·have h':l.length=ks.length:=by omega
  rw[if_pos h,yX l ks h'];have hz:(l.zip ks).length=l.length:=by rw[mρ];omega
  refine(bp (l.zip ks) (fun q i=>itL (rq _ m _ _) q (ks.map iE,l.map Va.e,(l.length:Int),i)) (fun p=>!qF p.1 p.2) (fun _=>some (pB false,[])) (some (pB true,[])) (fun q i hi=>?_) (fun q=>?_) (by omega)).trans ?_
  ·rw[hz]at hi;rw[nt];simp only[rq,ej (show((i:Int)<(l.length:Int)) by omega),aQ,aO,bi,aU hi,aU (show i<ks.length by omega),bo,Va.e,pR,dI,wS (show i<cr by unfold cr;omega),List.getElem_zip];have e:=NI (m:=m) l[i] ks[i] (by omega);simp only[Va.e]at e;show ct lay0.tab m 38 [.p (.agg l[i].c),_] [] _=_;rw[aa e];simp only[bk,aF,aC];cases qF l[i] ks[i]<;>rfl
  ·rw[nt,hz];simp only[rq,cH,aR]
  ·rw[fd];cases(l.zip ks).findIdx? fun p=>!qF p.1 p.2<;>rfl
 ·rw[if_neg h,yW l ks (by omega)]
def Qq (l:List Va)(ks:LI)(hl:l.length<1501)(hm:1507<=m):Ω m 15 [pL 5 (l.map Va.e),pL 1 (ks.map iE)] []=some (pB (fR l ks),[]):=by
 replace hm:=bl hm;obtain⟨m,rfl,hm⟩:=hm;apply Q9 m (l.map Va.e) (ks.map iE);unfold BK;rw[aa (Ŝ (m:=m) l ks hl hm)];simp only[bk,aF,aX]
structure Ef where
 k:Int
 n:LN
 (a b:Int)
def Ef.e (x:Ef):Da:= .agg [.int .i64 x.k,.str x.n,.int .i64 x.a,.int .i64 x.b]
def F8:Ef:=⟨0,[],0,0⟩
def Rj (q:Int)(l:List Va)(c:Nat):Option (Ef×Int):=
 match l with
 |[]=>none
 |a::r=>
  bif bw 16 (c:Int)then some (F8,5)else bif be a.s []then some (F8,5)else bif aP 32 (a.s.length:Int)then some (F8,5)else
  bif az q 1 then(match r with|b::_=>some (⟨q,a.s,b.n,0⟩,0)|_=>none)else
  bif az q 2 then(match r with|b::d::_=>bif aP b.n 1 then some (F8,5)else bif aP 1073741824 b.n then some (F8,5)else bif aP d.n 1 then some (F8,5)else bif aP 1073741824 d.n then some (F8,5)else some (⟨q,a.s,b.n,d.n⟩,0)|_=>none)else
  some (⟨q,a.s,0,0⟩,0)
def SL (r:Ef×Int):R:=some (.tup [.p r.1.e,pI r.2],[])
def gE {α:Type}(f:α->R)(b:Bool)(x y:Option α)(X Y:R){r:α}(h:(bif b then x else y)=some r)(hx:x=some r->X=f r)(hy:y=some r->Y=f r):iL b X Y=f r:=by
 cases b
 ·exact hy h
 ·exact hx h
def ś (q:Int)(l:List Va)(c:Nat){r:Ef×Int}(h:Rj q l c=some r)(hm:1<=m):Ω m 80 [pI q,pL 5 (l.map Va.e),pI c] []=SL r:=by
 replace hm:=bl hm;obtain⟨m,rfl,hm⟩:=hm;apply ţ m q (l.map Va.e) c;unfold Ud;unfold Rj at h;have z:∀y:Ef×Int,some y=some r->SL y=SL r:=fun y e=>by rw[Option.some.inj e]
 match l,h with
 |a::t,h=>
  show iL (bw 16 (c:Int)) _ (iL (be a.s []) _ (iL (aP 32 (a.s.length:Int)) _ (iL (az q 1) _ (iL (az q 2) _ _))))=_;refine gE SL _ _ _ _ _ h (z _) fun h=>?_
  refine gE SL _ _ _ _ _ h (z _) fun h=>?_
  refine gE SL _ _ _ _ _ h (z _) fun h=>?_
  refine gE SL _ _ _ _ _ h (fun h=>?_) fun h=>?_
  ·match t,h with
   |b::_,h=>exact z _ h
  refine gE SL _ _ _ _ _ h (fun h=>?_) (z _);match t,h with
  |b::d::_,h=>
   show iL (aP b.n 1) _ (iL (aP 1073741824 b.n) _ (iL (aP d.n 1) _ (iL (aP 1073741824 d.n) _ _)))=_;refine gE SL _ _ _ _ _ h (z _) fun h=>?_
   refine gE SL _ _ _ _ _ h (z _) fun h=>?_
   refine gE SL _ _ _ _ _ h (z _) fun h=>?_
   exact gE SL _ _ _ _ _ h (z _) (z _)
def abI (m:Nat)(l:LD):Ω (m+1) 44 [pL 5 l] []=fD 5 80 [.slice 5 l]:=by kernel_rfl
def abJ (m:Nat)(l:LD):Ω (m+1) 45 [pL 1 l] []=fD 1 8 [.slice 1 l]:=by kernel_rfl
def abK (m:Nat)(l:LD):Ω (m+1) 46 [pL 1 l] []=fD 1 16 [.slice 1 l]:=by kernel_rfl
def V3 {z b:Nat}{l:LD}(h:l.length<1501)(hb:b<=1000):fD z b [.slice z l]=some (.arr 0 0 l.length z,[.arr l]):=by
 have h1:(2*(0+l.length)+192)*b<=(2*(0+l.length)+192)*1000:=Nat.mul_le_mul_left _ hb;have:iV l.length b=true:=by
  unfold iV;rw[lγ,Nat.ble_eq,Nat.ble_eq];omega
 show(bif Nat.beq z z&&iV l.length b then some (D.arr 0 0 l.length z,[Ob.arr l])else none)=_;rw[Nat.beq_refl,this];rfl
def abn (l:LD)(h:l.length<1501)(hm:1<=m):Ω m 44 [pL 5 l] []=some (.arr 0 0 l.length 5,[.arr l]):=by
 replace hm:=bl hm;obtain⟨m,rfl,hm⟩:=hm;rw[abI,V3 h (by decide)]
def aab (l:LD)(h:l.length<1501)(hm:1<=m):Ω m 45 [pL 1 l] []=some (.arr 0 0 l.length 1,[.arr l]):=by
 replace hm:=bl hm;obtain⟨m,rfl,hm⟩:=hm;rw[abJ,V3 h (by decide)]
def aac (l:LD)(h:l.length<1501)(hm:1<=m):Ω m 46 [pL 1 l] []=some (.arr 0 0 l.length 1,[.arr l]):=by
 replace hm:=bl hm;obtain⟨m,rfl,hm⟩:=hm;rw[abK,V3 h (by decide)]
def iB (i z lo len:Nat)(k:Nat->Nat->R):gt i z (.arr i lo len z) k=k lo len:=by
 unfold gt;simp[iL]
def iq (l:LD)(k:LD->R):f6 (.arr l) k=k l:=rfl
def T1 (v:Va)(hI:v.I.length<1501)(hL:v.L.length<1501)(hm:2<=m):Ω m 164 [.p v.e] []=some (.agg [pI v.k,pI v.n,pS v.s,.arr 0 0 v.I.length 1,.arr 1 0 v.L.length 1],[.arr (v.I.map iE),.arr (v.L.map .str)]):=by
 replace hm:=bl hm;obtain⟨m,rfl,hm⟩:=hm;apply UY m v.r;unfold GS;rw[aa (aab (m:=m) v.r.I (by show(v.I.map iE).length<_;rw[lβ];exact hI) hm),iB];simp only[Nat.beq_refl,aQ,bJ,iq,aC];rw[aa (aac (m:=m) v.r.L (by show(v.L.map Da.str).length<_;rw[lβ];exact hL) hm),iB];simp only[Nat.beq_refl,aQ,bJ,iq,aC,Va.r,lβ]
def jF (l:List Va)(hl:l.length<1501)(hv:∀v∈l,v.I.length<1501/\v.L.length<1501)(hm:1503<=m):Ω m 18 [pL 5 (l.map Va.e)] []=some (.arr 0 0 l.length 5,[.arr (l.map Va.e)]):=by
 replace hm:=bl hm;obtain⟨m,rfl,hm⟩:=hm;apply QM m (l.map Va.e);unfold Bl;rw[aa (abn (m:=m) (l.map Va.e) (by rw[lβ];exact hl) (by omega)),iB];simp only[Nat.beq_refl,aQ,bJ,iq,aC,lβ];have key:∀(e q i:Nat),i+e=l.length->e<q->itL (kF (ct lay0.tab m) m (fun(n34,i35,i36,b37,l38)=>some ((.arr 0 0 n34 5),[(.arr l38)]))) q (l.length,(l.length:Int),(i:Int),l.map Va.e)=some (.arr 0 0 l.length 5,[.arr (l.map Va.e)]):=by
  intro e;induction e with
  |zero=>
   intro q i hi hq;obtain⟨q,rfl⟩:∃k,q=k+1:=⟨q - 1,by omega⟩
   obtain rfl:i=l.length:=by omega
   rw[nt];simp only[kF,cH,aR]
  |succ e ih=>
   intro q i hi hq;obtain⟨q,rfl⟩:∃k,q=k+1:=⟨q - 1,by omega⟩
   have hil:i<l.length:=by omega
   have hg:(l.map Va.e)[0+(i:Int).toNat]?=some (Da.agg l[i].c):=by
    rw[Nat.zero_add,Int.toNat_natCast,lσ,lδ hil];rfl
   have hs:∀d:Da,d=Da.agg l[i].c->(l.map Va.e).set (0+(i:Int).toNat) d=l.map Va.e:=by
    intro d hd;rw[Nat.zero_add,Int.toNat_natCast,hd];apply List.ext_getElem?;intro k;rw[List.getElem?_set];by_cases hk:i=k
    ·subst hk;rw[if_pos rfl,if_pos (by rw[lβ];exact hil),lσ,lδ hil];rfl
    ·rw[if_neg hk]
   obtain⟨h1,h2⟩:=hv l[i] (lν _);have e45:=aa (aab (m:=m) l[i].r.I (by show(l[i].I.map iE).length<_;rw[lβ];exact h1) (by omega));have e46:=aa (aac (m:=m) l[i].r.L (by show(l[i].L.map Da.str).length<_;rw[lβ];exact h2) (by omega));rw[nt];have t1:Da.agg (splice (cells l[i].r.e) 3 (cells (Da.slice 1 (List.take l[i].r.I.length (List.drop 0 l[i].r.I)))))=Da.agg l[i].c:=by
    rw[List.drop_zero,List.take_length];rfl
   have t2:Da.agg (splice (cells l[i].r.e) 4 (cells (Da.slice 1 (List.take l[i].r.L.length (List.drop 0 l[i].r.L)))))=Da.agg l[i].c:=by
    rw[List.drop_zero,List.take_length];rfl
   simp only[kF,ej (show((i:Int)<(l.length:Int)) by omega),aQ,bW,show(0:Int)<=(i:Int) by omega,decide_true,hg,bo,pR,e45,iB,Nat.beq_refl,bJ,iq,aC,e46,hs _ t1,hs _ t2,wS (show i<cr by unfold cr;omega)];exact ih q (i+1) (by omega) (by omega)
 exact key l.length m 0 (by omega) (by omega)
def Ga (v:Va):Nat:=v.s.length+v.I.length+v.L.length
def Z_ (o:LN)(l:List Va):Option (Va×Int):=
 bif be o [105,110,116,115]then some (⟨4,0,[],l.map Va.n,[]⟩,0)else bif be o [115,116,114,105,110,103,115]then some (⟨5,0,[],[],l.map Va.s⟩,0)else
 match l with
 |[]=>none
 |a::r=>
  bif be o [108,101,110]then some (W9 (Ga a:Nat),0)else
  bif be o [115,116,114]then some (⟨3,0,za a.n,[],[]⟩,0)else
  match r with
  |[]=>none
  |b::r2=>
   bif be o [97,112,112,101,110,100]then(bif az (Ga a:Nat) 16 then some (v0,5)else bif az a.k 4 then some (⟨a.k,a.n,a.s,a.I++[b.n],a.L⟩,0)else some (⟨a.k,a.n,a.s,a.I,a.L++[b.s]⟩,0))else
   bif aP b.n 0 then some (v0,20)else bif bw (Ga a:Nat) b.n then some (v0,20)else
   bif be o [97,116]then(bif az a.k 4 then a.I[b.n.toNat]?.map (fun x=>(W9 x,0))else a.L[b.n.toNat]?.map (fun t=>(⟨3,0,t,[],[]⟩,0)))else
   match r2 with
   |[]=>none
   |c::_=>
    bif az a.k 4 then a.I[b.n.toNat]?.map (fun _=>(⟨a.k,a.n,a.s,a.I.set b.n.toNat c.n,a.L⟩,0))else a.L[b.n.toNat]?.map (fun _=>(⟨a.k,a.n,a.s,a.I,a.L.set b.n.toNat c.s⟩,0))
def aaG (m:Nat)(n:Int):Ω (m+1) 166 [pI n] []=mg [.int .i64 n]:=by kernel_rfl
def ŕ (n:Int)(h:ji n)(hm:1<=m):Ω m 166 [pI n] []=some (pS (za n),[]):=by
 replace hm:=bl hm;obtain⟨m,rfl,hm⟩:=hm;rw[aaG];have h1:bw (-9223372036854775808) n=true:=by rw[bW];exact mη h.1
 have h2:bw n 9223372036854775807=true:=by rw[bW];exact mη h.2
 simp only[mg,h1,h2,Bool.and_self,cond_true]
def Oz {m:Nat}(l:List Va)(hl:l.length<1501)(i2:Int)(s4 s5:LN)(K:_->R):∀(e q i:Nat),i+e=l.length->e<q->itL (jr (ct lay0.tab m) m K) q (l.map Va.e,(l.length:Int),(i:Int),s4,s5,i,(l.take i).map fun v=>Da.int .i64 v.n)=K (l.map Va.e,(l.length:Int),(l.length:Int),false,s4,s5,l.length,l.map fun v=>Da.int .i64 v.n)
 |0,q+1,i,hi,_=>by
  obtain rfl:i=l.length:=by omega
  rw[nt];simp only[jr,cH,aR,List.take_length]
 |e+1,q+1,i,hi,hq=>by
  have hil:i<l.length:=by omega
  rw[nt];have hb:ce (((l.take i).map fun v=>Da.int .i64 v.n).length+[Da.int .i64 l[i].r.N].length) 8=true:=yx (by rw[lβ,mκ];simp;omega);have hn:Nat.beq i ((l.take i).map fun v=>Da.int .i64 v.n).length=true:=by rw[lβ,mκ,Nat.min_eq_left (by omega),Nat.beq_refl]
  have ht:(l.take i).map (fun v=>Da.int .i64 v.n)++[Da.int .i64 l[i].r.N]=(l.take (i+1)).map fun v=>Da.int .i64 v.n:=by
   rw[List.take_add_one,lδ hil,Option.toList_some,List.map_append];rfl
  simp only[jr,ej (show((i:Int)<(l.length:Int)) by omega),aQ,aO,bi,aU hil,bo,Va.e,pR,hb,hn,wS (show i<cr by unfold cr;omega)];rw[ht,show((l.take (i+1)).map fun v=>Da.int .i64 v.n).length=i+1 by rw[lβ,mκ];omega];exact Oz l hl i2 s4 s5 K e q (i+1) (by omega) (by omega)
def OA {m:Nat}(l:List Va)(hl:l.length<1501)(i2:Int)(s4 s5:LN)(K:_->R):∀(e q i:Nat),i+e=l.length->e<q->itL (jt (ct lay0.tab m) m K) q (l.map Va.e,(l.length:Int),(i:Int),s4,s5,i,(l.take i).map fun v=>Da.str v.s)=K (l.map Va.e,(l.length:Int),(l.length:Int),false,s4,s5,l.length,l.map fun v=>Da.str v.s)
 |0,q+1,i,hi,_=>by
  obtain rfl:i=l.length:=by omega
  rw[nt];simp only[jt,cH,aR,List.take_length]
 |e+1,q+1,i,hi,hq=>by
  have hil:i<l.length:=by omega
  rw[nt];have hb:ce (((l.take i).map fun v=>Da.str v.s).length+[Da.str l[i].r.S].length) 16=true:=by
   unfold ce;rw[lγ,Nat.ble_eq,Nat.ble_eq,lβ,mκ];simp only[List.length_cons,List.length_nil];omega
  have hn:Nat.beq i ((l.take i).map fun v=>Da.str v.s).length=true:=by rw[lβ,mκ,Nat.min_eq_left (by omega),Nat.beq_refl]
  have ht:(l.take i).map (fun v=>Da.str v.s)++[Da.str l[i].r.S]=(l.take (i+1)).map fun v=>Da.str v.s:=by
   rw[List.take_add_one,lδ hil,Option.toList_some,List.map_append];rfl
  simp only[jt,ej (show((i:Int)<(l.length:Int)) by omega),aQ,aO,bi,aU hil,bo,Va.e,pR,hb,hn,wS (show i<cr by unfold cr;omega)];rw[ht,show((l.take (i+1)).map fun v=>Da.str v.s).length=i+1 by rw[lβ,mκ];omega];exact OA l hl i2 s4 s5 K e q (i+1) (by omega) (by omega)
def Υ (i z n:Nat)(k:Nat->R):AN i z (.arr i 0 n z) k=k n:=by
 unfold AN;simp[iL]
def ŗ (v:Va)(hv:Wk v)(hm:1<=m)(x y:Nat)(hx:x=v.I.length)(hy:y=v.L.length):Ω m 165 [.agg [pI v.k,pI v.n,pS v.s,.arr 0 0 x 1,.arr 1 0 y 1]] [.arr (v.I.map iE),.arr (v.L.map .str)]=some (pI (Ga v:Nat),[.arr (v.I.map iE),.arr (v.L.map .str)]):=by
 replace hm:=bl hm;obtain⟨m,rfl,hm⟩:=hm;apply UZ m v.k v.n v.s x y;subst hx hy;have h1:=hv.s;have h2:=hv.I;have h3:=hv.L;unfold GT Ga;rw[gU (n:=(v.s.length:Int)+(v.I.length:Int)) (by omega) (by omega),gU (by omega) (by omega)];simp only[Int.natCast_add]
def KG (o:LN)(l:List Va){r:Va×Int}(hw:∀v∈l,Wk v)(hl:l.length<=100)(h:Z_ o l=some r)(hm:1510<=m):Ω m 118 [pS o,pL 5 (l.map Va.e)] []=vE r:=by
 replace hm:=bl hm;obtain⟨m,rfl,hm⟩:=hm;apply Ls m o (l.map Va.e);unfold xV;unfold Z_ at h;have z:∀y:Va×Int,some y=some r->vE y=vE r:=fun y e=>by rw[Option.some.inj e]
 refine gE vE _ _ _ _ _ h (fun h=>?_) fun h=>?_
 ·rw[lβ];refine(Oz l (by omega) 0 _ _ _ l.length m 0 (by omega) (by omega)).trans ?_;rw[<-Option.some.inj h];show some (_,_)=vE _;unfold vE Va.e Va.c;simp only[List.drop_zero,List.map_map];rw[lψ (by rw[lβ];omega)];rfl
 refine gE vE _ _ _ _ _ h (fun h=>?_) fun h=>?_
 ·rw[lβ];refine(OA l (by omega) 0 _ _ _ l.length m 0 (by omega) (by omega)).trans ?_;rw[<-Option.some.inj h];show some (_,_)=vE _;unfold vE Va.e Va.c;simp only[List.drop_zero,List.map_map];rw[lψ (by rw[lβ];omega)];rfl
 match l,h with
 |a::t,h=>
  have wa:=hw a lη;have h1:=wa.s;have h2:=wa.I;have h3:=wa.L;have ec:=T1 (m:=m) a (by omega) (by omega) (by omega);have es:=ŗ (m:=m) a wa (by omega) _ _ rfl rfl;have ei:=fun n=>aa (qh (m:=m) n (by omega))
  simp only[Va.e]at ec ei;rw[show bA (List.map Va.e (a::t)) 0=some (Da.agg a.c)from rfl,bo,pR,show a.r.e=Da.agg a.c from rfl,aa ec];simp only[show ∀(x:List D) (K:List D->R),V9 (.agg x) K=K x from fun _ _=>rfl,bJ,bk,cb,ό,Υ,aC,iq,aa es,ei,pR];refine gE vE _ _ _ _ _ h (z _) fun h=>?_
  refine gE vE _ _ _ _ _ h (fun h=>?_) fun h=>?_
  ·rw[aa (ŕ (m:=m) a.n wa.n (by omega))];exact z _ h
  match t,h with
  |b::t2,h=>
   have wb:=hw b (lρ _ lη);refine gE vE _ _ _ _ _ h (fun h=>?_) fun h=>?_
   ·refine gE vE _ _ _ _ _ h (z _) fun h=>?_
    refine gE vE _ _ _ _ _ h (fun h=>?_) (fun h=>?_)
    ·show iL (Nat.beq a.I.length (a.I.map iE).length) (iL (ce ((a.I.map iE).length+1) 8) _ _) _=_;rw[lβ,Nat.beq_refl,yx (by omega),aQ,aQ];rw[<-z _ h];unfold vE Va.e Va.c;simp only[List.drop_zero,List.take_length,List.map_append,List.map_cons,List.map_nil];rw[lψ (by rw[lβ];omega)];rfl
    ·show iL (Nat.beq a.L.length (a.L.map Da.str).length) (iL (ce ((a.L.map Da.str).length+1) 16) _ _) _=_;have:ce (a.L.length+1) 16=true:=by unfold ce;rw[lγ,Nat.ble_eq,Nat.ble_eq];omega
     rw[lβ,Nat.beq_refl,this,aQ,aQ];rw[<-z _ h];unfold vE Va.e Va.c;simp only[List.drop_zero,List.take_length,List.map_append,List.map_cons,List.map_nil];rw[lψ (by rw[lβ];omega)];try rfl
   show iL (aP b.n 0) _ (iL (bw (Ga a:Nat) b.n) _ (iL (be o [97,116]) _ _))=_;cases hn:aP b.n 0 with
   |true=>rw[hn,cond_true]at h;exact z _ h
   |false=>
   rw[hn,cond_false]at h;rw[aR];rw[dJ,lμ]at hn;have h0:bw 0 b.n=true:=by rw[bW];exact mη (by omega)
   refine gE vE _ _ _ _ _ h (z _) fun h=>?_
   have eI:∀x,a.I[b.n.toNat]?=some x->aP b.n (a.I.length:Nat)=true/\(a.I.map iE)[0+b.n.toNat]?=some (iE x):=fun x e=>by
    obtain⟨g1,g2⟩:=List.getElem?_eq_some_iff.1 e;refine⟨by rw[dJ];exact mη (by omega),?_⟩
    rw[Nat.zero_add,lσ,e];rfl
   have eL:∀x,a.L[b.n.toNat]?=some x->aP b.n (a.L.length:Nat)=true/\(a.L.map Da.str)[0+b.n.toNat]?=some (.str x):=fun x e=>by
    obtain⟨g1,g2⟩:=List.getElem?_eq_some_iff.1 e;refine⟨by rw[dJ];exact mη (by omega),?_⟩
    rw[Nat.zero_add,lσ,e];rfl
   cases ha:be o [97,116]with
   |true=>
    rw[ha,cond_true]at h;rw[aQ];refine gE vE _ _ _ _ _ h (fun h=>?_) fun h=>?_
    ·rw[mβ]at h;obtain⟨x,hx,rfl⟩:=h;obtain⟨g1,g2⟩:=eI x hx;show iL (bw 0 b.n) (iL (aP b.n (a.I.length:Nat)) (cL ((a.I.map iE)[0+b.n.toNat]?) _) _) _=_;rw[h0,g1,g2];rfl
    ·rw[mβ]at h;obtain⟨x,hx,rfl⟩:=h;obtain⟨g1,g2⟩:=eL x hx;show iL (bw 0 b.n) (iL (aP b.n (a.L.length:Nat)) (cL ((a.L.map Da.str)[0+b.n.toNat]?) _) _) _=_;rw[h0,g1,g2];rfl
   |false=>
    rw[ha,cond_false]at h;rw[aR,aR];match t2,h with
    |c::_,h=>
     refine gE vE _ _ _ _ _ h (fun h=>?_) fun h=>?_
     ·rw[mβ]at h;obtain⟨x,hx,rfl⟩:=h;obtain⟨g1,g2⟩:=eI x hx;show iL (bw 0 b.n) (iL (aP b.n (a.I.length:Nat)) (cL ((a.I.map iE)[0+b.n.toNat]?) _) _) _=_;rw[h0,g1,g2];show some (D.tup [.p (.agg [_,_,_,.slice 1 (List.take a.I.length (List.drop 0 ((a.I.map iE).set (0+b.n.toNat) (iE c.n)))),.slice 1 (List.take a.L.length (List.drop 0 (a.L.map Da.str)))]),_],[])=_;unfold vE Va.e Va.c;rw[List.drop_zero,List.drop_zero,Nat.zero_add,lψ (by rw[List.length_set,lβ];omega),lψ (by rw[lβ];omega),List.map_set];try rfl
     ·rw[mβ]at h;obtain⟨x,hx,rfl⟩:=h;obtain⟨g1,g2⟩:=eL x hx;show iL (bw 0 b.n) (iL (aP b.n (a.L.length:Nat)) (cL ((a.L.map Da.str)[0+b.n.toNat]?) _) _) _=_;rw[h0,g1,g2];show some (D.tup [.p (.agg [_,_,_,.slice 1 (List.take a.I.length (List.drop 0 (a.I.map iE))),.slice 1 (List.take a.L.length (List.drop 0 ((a.L.map Da.str).set (0+b.n.toNat) (.str c.s))))]),_],[])=_;unfold vE Va.e Va.c;rw[List.drop_zero,List.drop_zero,Nat.zero_add,lψ (l:=a.I.map iE) (by rw[lβ];omega),lψ (by rw[List.length_set,lβ];omega),List.map_set];try rfl
def yA:Option CS->Da
 |some c=>cJ c
 |none=> .agg [.slice 2 [],.nilmap,.nilmap]
def CX {n:Nat}(p:List Ac)(bs:List (List CS))(t m:Int):Ω (n+1) 42 [.box 0 0,pI t,pI m] (cS p bs).hp=some (.tup [.p (yA (cU bs t m)),pB (cU bs t m).isSome],(cS p bs).hp):=by
 apply Y6 n (cS p bs) t m;unfold NR cU;have hn:(cS p bs).bn=bs.length:=rfl;have hb:(cS p bs).bs=bs.map fun l=> .slice 3 (l.map cJ):=rfl
 by_cases h0:t<0
 ·rw[ej h0,aQ];have:dL bs t=none:=by unfold dL;rw[if_neg (by omega)]
  rw[this];rfl
 rw[wI h0,aR,hn,bW,fT];obtain⟨j,rfl⟩:∃j:Nat,t=(j:Int):=⟨t.toNat,by omega⟩
 by_cases h1:(bs.length:Int)<=(j:Int)
 ·rw[if_pos h1];have:dL bs (j:Int)=none:=by rw[cd,lπ (by omega)]
  rw[this];rfl
 rw[if_neg h1];have hj:j<bs.length:=by omega
 have hg:(cS p bs).bs[0+(j:Int).toNat]?=some (.slice 3 (bs[j].map cJ)):=by
  rw[hb,Nat.zero_add,Int.toNat_natCast,lσ,lδ hj];rfl
 rw[aU hj];simp only[hg,bW,show(0:Int)<=(j:Int) by omega,decide_true,aQ,ej (show(j:Int)<(bs.length:Int) by omega),bo];by_cases h2:m<0
 ·rw[ej h2,aQ];have:dL bs[j] m=none:=by unfold dL;rw[if_neg (by omega)]
  rw[this];rfl
 rw[wI h2,aR];obtain⟨i,rfl⟩:∃j:Nat,m=(j:Int):=⟨m.toNat,by omega⟩
 show iL (decide (((bs[j].map cJ).length:Int)<=(i:Int))) _ (cL (bA (bs[j].map cJ) (i:Int)) _)=_;rw[lβ,fT];by_cases h3:(bs[j].length:Int)<=(i:Int)
 ·rw[if_pos h3];have:dL bs[j] (i:Int)=none:=by rw[cd,lπ (by omega)]
  rw[this];rfl
 ·rw[if_neg h3,aO,bi,aU (by omega)];rfl
def ï (o:Option CS)(n:Int):Option Int:=match o with|some c=>cj c.ki n|none=>none
def Tf (o:Option CS)(n:Int):Option Vr:=match o with|some c=>cj c.va n|none=>none
def ED (o:Option CS):List Pa:=match o with|some c=>c.lo|none=>[]
def kiD (o:Option Int):D:= .tup [pI (o.getD 0),pB o.isSome]
def vaD (o:Option Vr):D:= .tup [pI ((o.map (·.slot)).getD 0),pB ((o.map (·.field)).getD false),pB o.isSome]
def YP {n:Nat}(p:List Ac)(bs:List (List CS))(x:bb):Ω (n+2) 119 [.box 0 0,.p x.e] (cS p bs).hp=some (kiD (ï (cU bs x.Type_ x.Method) x.Node),(cS p bs).hp):=by
 apply Y4 (n+1) (cS p bs) x;unfold NP;simp only[aa (CX (n:=n) p bs x.Type_ x.Method)];cases cU bs x.Type_ x.Method with
 |none=>
  simp only[bt,bJ,bk,aF,aC,aX,yA,cJ,ur,vo];rfl
 |some c=>
  have h:=lkI c.ki x.Node (fun v=> .int .i64 v) (some (.tup [pI 0,pB false],(cS p bs).hp)) (fun x25=>bg .i64 x25 fun i26=>some (.tup [pI i26,pB true],(cS p bs).hp));simp only[bt,bJ,bk,aF,aC,aX,yA,cJ,ur,vo];refine Eq.trans h ?_;simp only[ï];cases cj c.ki x.Node<;>rfl
def YQ {n:Nat}(p:List Ac)(bs:List (List CS))(x:bb):Ω (n+2) 78 [.box 0 0,.p x.e] (cS p bs).hp=some (vaD (Tf (cU bs x.Type_ x.Method) x.Node),(cS p bs).hp):=by
 apply Y5 (n+1) (cS p bs) x;unfold NQ;simp only[aa (CX (n:=n) p bs x.Type_ x.Method)];cases cU bs x.Type_ x.Method with
 |none=>
  simp only[bt,bJ,bk,aF,aC,aX,yA,cJ,ur,vo];rfl
 |some c=>
  have h:=lkI c.va x.Node Vr.e (some (.tup [pI 0,pB false,pB false],(cS p bs).hp)) (fun x25=>aV x25 fun u26=>iL u26.field (some (.tup [pI u26.slot,pB true,pB true],(cS p bs).hp)) (some (.tup [pI u26.slot,pB false,pB true],(cS p bs).hp)))
  simp only[bt,bJ,bk,aF,aC,aX,yA,cJ,ur,vo];refine Eq.trans h ?_;simp only[Tf];cases cj c.va x.Node with
  |none=>rfl
  |some v=>
   obtain⟨k,s,f⟩:=v;cases f<;>rfl
def ė:∃x,lay0.tab 43=some (.both (jK 2 24) x):=⟨(jc prog0 globs0 gT 43).getD ⟨.skip,[],false⟩,by kernel_rfl⟩
def NF {n:Nat}(l:LD)(h:l.length<15010):Ω (n+1) 43 [pL 2 l] []=some (pL 2 l,[]):=by
 obtain⟨x,hx⟩:=ė;unfold evFn;rw[hx];show jK 2 24 [.slice 2 l]=_;show(bif(Nat.beq 2 2&&(Nat.ble ((2*(0+l.length)+192)*24) 281474976710656&&Nat.ble (2*(0+l.length)+192) 9223372036854775807))then some (D.p (.slice 2 l),([]:List Ob))else none)=_
 rw[show(Nat.beq 2 2&&(Nat.ble ((2*(0+l.length)+192)*24) 281474976710656&&Nat.ble (2*(0+l.length)+192) 9223372036854775807))=true by rw[lγ,lγ,Nat.ble_eq,Nat.ble_eq];exact⟨rfl,by omega,by omega⟩];rfl
def P8 {n:Nat}(p:List Ac)(bs:List (List CS))(t m:Int)(h:(ED (cU bs t m)).length<15010):Ω (n+2) 17 [.box 0 0,pI t,pI m] (cS p bs).hp=some (pL 2 ((ED (cU bs t m)).map Pa.e),(cS p bs).hp):=by
 apply QL (n+1) (cS p bs) t m;unfold Bk;rw[aa (CX (n:=n) p bs t m)];cases hb:cU bs t m with
 |none=>
  simp only[bt,bJ,bk,aF,aC,aX,yA,cJ,ur,vo,aa (NF (n:=n) [] (by decide))];rfl
 |some c=>
  rw[hb]at h;simp only[bt,bJ,bk,aF,aC,aX,yA,cJ,ur,vo,aa (NF (n:=n) (c.lo.map Pa.e) (by rw[lβ];exact h))];rfl
def V2 {pr:List Ac}{m:Me}{c:CS}(h:eX 1501 pr fs m=some (some c))(hb:lu m.nodes)(hn:m.nodes.length<1501)(hp:m.params.length<1501):c.lo.length<15010:=by
 unfold eX at h;obtain⟨o,h1,h2⟩:=Fg m.params (CS.init pr fs m) (by simp[CS.init];exact hp);rw[h1]at h;cases o with
 |none=>cases h
 |some c1=>
  obtain⟨k,hs,hk⟩:=hb.tree;have hst:=j5 _ _ h1;have hl:=h2 c1 rfl;simp[CS.init]at hl;obtain⟨k',c2,e,hle⟩:=xC hb.ar 1501 0 k hs (by omega) c1 false (hst.ns) (by omega);have:((m.nodes.length:Int) - 1)=(k:Int):=by omega
  simp only[this,e,lα]at h;subst h;omega
end
end Go.Ab
