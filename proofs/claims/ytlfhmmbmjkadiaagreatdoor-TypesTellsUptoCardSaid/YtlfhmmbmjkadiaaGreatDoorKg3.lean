import Derived.Test.YtlfhmmbmjkadiaaGreatDoorKg1
import Derived.Test.YtlfhmmbmjkadiaaGreatDoorOg3
import Derived.Test.YtlfhmmbmjkadiaaGreatDoorKg2
set_option linter.all false
section
namespace Go.Ab
open Go
set_option maxRecDepth 100000
noncomputable section
theorem FY {m:Nat}(b:Bool)(u:ah)(ps:List Pa)(k0:kI→R)(hl:ps.length<1000):∀(e q j:Nat) (acc:List Int),j+e=ps.length→e<q→acc.length≤j→
  L_tLookup_1 (bv lay0.tab m) m k0 q (b,ps.map Pa.e,(ps.length:Int),(j:Int),u,acc.length,acc.map iE)=k0 (b,ps.map Pa.e,(ps.length:Int),(ps.length:Int),u,(acc++(ps.drop j).map (·.kind)).length,(acc++(ps.drop j).map (·.kind)).map iE)
 |0,q+1,j,acc,h,_,_=>by
  obtain rfl:j=ps.length:=by omega
  rw[wZ];simp only[lm,bY,aS,List.drop_length,List.map_nil,mε]
 |e+1,q+1,j,acc,h,hq,ha=>by
  have hj:j<ps.length:=by omega
  rw[wZ,lμ hj];have hm:acc.map iE++[Da.int .i64 ps[j].kind]=(acc++[ps[j].kind]).map iE:=by rw[List.map_append];rfl
  have hb:dM (acc.length+[Da.int .i64 ps[j].kind].length) 8=true:=zS (by simp;omega);simp only[lm,cT (show((j:Int)<(ps.length:Int)) by omega),aP,aE,aH,aG hj,be,ZH,show ps[j].r.Kind=ps[j].kind from rfl,hm,wS (show j<cb by unfold cb;omega),lβ,show Nat.beq acc.length acc.length=true from Nat.beq_refl _,hb];refine(FY b u ps k0 hl e q (j+1) (acc++[ps[j].kind]) (by omega) (by omega) (by simp;omega)).trans ?_;simp only[mμ,List.singleton_append,List.map_cons]
def abb (o:Option Me):D:= .tup [.p (.agg [.slice 1 (((o.map fun m=>m.params.map (·.kind)).getD []).map iE),.int .i64 ((o.map (·.result)).getD 0)]),.p (.bool o.isSome)]
def Uw (p:List Ac)(t m:List Nat):Option Me:=if(Gj p).er=0 then jR p t m else none
theorem Ib {p:List Ac}{t m:List Nat}{x:Me}(h:jR p t m=some x):∃a∈p,x∈a.methods:=by
 unfold jR at h;cases hf:p.find? fun a=>decide (a.name=t)with
 |none=>rw[hf]at h;cases h
 |some a=>rw[hf]at h;exact⟨a,List.mem_of_find?_eq_some hf,List.mem_of_find?_eq_some h⟩
theorem U9 {n:Nat}(p:List Ac)(hp:tU p)(t m:List Nat):evFn lay0.tab (n+6004) 19 [pD p,.p (.str t),.p (.str m)] []=some (abb (Uw p t m),[]):=by
 apply VO (n+6003) ⟨p.map Ac.e⟩ t m;have h1:=aa (XC (n:=n) p hp);have h2:=aa (Hy (n:=n+5000) p t m hp.ty fun a ha=>(hp.ac a ha).me);unfold zF Uw;rw[show((D.p (ab.e ⟨p.map Ac.e⟩)))=pD p from rfl];simp only[h1,bt,cg,ba,bz,aA,aiy,aV,cq];by_cases he:(Gj p).er=0
 ·rw[if_pos he,if_pos he];show bv lay0.tab (n+5000+1003) 54 [.p (.agg [.slice 3 (p.map Ac.e)]),.p (.str t),.p (.str m)] [] _=_;rw[h2];cases hl:jR p t m with
  |none=>
   simp only[Option.getD_none,bt,cg,ba,aC,aA,bp,Option.isSome_none];have:=FY (m:=n+6003) false (Me.r ⟨[],[],0,[]⟩) [] (fun(b39,l40,i41,i42,u43,n44,l45)=>iL b39 (some (D.tup [.p (.agg [.slice 1 (List.take n44 (List.drop 0 l45)),.int .i64 u43.Result]),.p (.bool true)],[])) (some (D.tup [.p (.agg [.slice 1 (List.take n44 (List.drop 0 l45)),.int .i64 u43.Result]),.p (.bool false)],[]))) (by decide) 0 (n+6003) 0 [] (by simp) (by omega) (by simp)
   exact this
  |some x=>
   obtain⟨a,ha,hx⟩:=Ib hl;have hps:=((hp.ac a ha).mm x hx).ps;simp only[Option.getD_some,bt,cg,ba,aC,aA,bp,Option.isSome_some];have:=FY (m:=n+6003) true x.r x.params (fun(b39,l40,i41,i42,u43,n44,l45)=>iL b39 (some (D.tup [.p (.agg [.slice 1 (List.take n44 (List.drop 0 l45)),.int .i64 u43.Result]),.p (.bool true)],[])) (some (D.tup [.p (.agg [.slice 1 (List.take n44 (List.drop 0 l45)),.int .i64 u43.Result]),.p (.bool false)],[]))) hps x.params.length (n+6003) 0 [] (by omega) (by omega) (by simp)
   rw[List.drop_zero,List.nil_append]at this;rw[NK,aP];show L_tLookup_1 _ _ _ _ (true,x.params.map Pa.e,((x.params.map Pa.e).length:Int),0,x.r,0,[])=_;rw[lβ];refine Eq.trans this ?_;simp only[aP,List.drop_zero,abb,Option.map_some,Option.getD_some,Option.isSome_some];rw[mκ (by simp)];rfl
 ·rw[if_neg he,if_neg he];rfl
theorem abI {n:Nat}(xs ys:List Int)(h:xs.length<1000):evFn lay0.tab (n+1002) 20 [.p (.slice 1 (xs.map iE)),.p (.slice 1 (ys.map iE))] []=some (.p (.bool (decide (xs=ys))),[]):=by
 apply abY (n+1001) (xs.map iE) (ys.map iE);simp only[Jb,lβ,aV,cq];by_cases hl:xs.length=ys.length
 ·rw[if_pos (by omega)];refine(aX (xs.zip ys) (fun q i=>tP _ (n+1001) _ _ q (xs.map iE,ys.map iE,i)) (fun t=>!aB t.1 t.2) (fun i=>some (.p (.bool false),[])) (some (.p (.bool true),[])) (fun q i hi=>?_) (fun q=>?_) (by simp[mι];omega)).trans ?_
  ·simp only[mι]at hi;rw[D7];simp only[pC,lβ,cT (show((i:Int)<(xs.length:Int)) by omega),aP,aE,aH,aG (show i<xs.length by omega),aG (show i<ys.length by omega),be,dI,wS (show i<cb by unfold cb;omega),List.getElem_zip];exact de _ _ _
  ·rw[D7];simp only[pC,lβ,mι,hl,Nat.min_self,bY,aS]
  ·have key:=ny aB hl aV;cases hf:(xs.zip ys).findIdx? (fun t=>!aB t.1 t.2)with
   |none=>simp[key.1 hf]
   |some j=>
    have:¬xs=ys:=fun e=>by rw[key.2 e]at hf;cases hf
    simp[this]
 ·rw[if_neg (by omega)];have:¬xs=ys:=fun e=>hl (by rw[e])
  simp[this]
end
end Go.Ab
end
section
namespace Go.Ab
open Go
set_option maxRecDepth 100000
noncomputable section
def Qk (p:List Ac)(t m:Int):Option (Ac×Me):=bif oS p then(match eG p t with
 |some a=>(match eG a.methods m with|some x=>some (a,x)|none=>none)
 |none=>none)else none
theorem aa1 {p:List Ac}{t m:Int}{a:Ac}{x:Me}(h:Qk p t m=some (a,x)):oS p=true∧∃(j k:Nat),t=j∧m=k∧p[j]?=some a∧a.methods[k]?=some x:=by
 unfold Qk at h;cases hc:oS p with
 |false=>rw[hc]at h;cases h
 |true=>
  rw[hc]at h;simp only[cond_true]at h;cases ha:eG p t with
  |none=>rw[ha]at h;cases h
  |some a'=>
   rw[ha]at h;simp only at h;cases hx:eG a'.methods m with
   |none=>rw[hx]at h;cases h
   |some x'=>
    rw[hx]at h;simp only[lα,lε]at h;obtain⟨rfl,rfl⟩:=h;obtain⟨j,rfl,h1⟩:=ij ha;obtain⟨k,rfl,h2⟩:=ij hx;exact⟨rfl,j,k,rfl,rfl,h1,h2⟩
theorem wy {n:Nat}(p:List Ac)(hp:tU p)(hs:∀a∈p,QV n a)(hb:n≤200000000000000000000)(t m:Int):evFn lay0.tab (n+3007) 56 [pD p,.p (.int .i64 t),.p (.int .i64 m)] []=some (.p (.bool (Qk p t m).isSome),[]):=by
 apply ab0 (n+3006) ⟨p.map Ac.e⟩ t m;obtain⟨pl,e,h1,h2⟩:=Qw (n:=n) p hp hs hb;unfold Jd Qk;simp only[show(D.p (ab.e ⟨p.map Ac.e⟩))=pD p from rfl,aa h1,bt,cg,ba,bz,aA,agn,lβ,aV];cases hc:oS p with
 |false=>
  rw[hc]at h2;have:¬e=0:=fun g=>by have:=h2.1 g;cases this
  simp only[this,decide_false,aS,cond_false,Option.isSome_none]
 |true=>
  rw[hc]at h2;simp only[h2.2 rfl,decide_true,aP,cond_true,bJ,iR,dt];by_cases h0:0≤t
  ·rw[if_pos h0];by_cases h1:t<(p.length:Int)
   ·rw[if_pos h1];obtain⟨j,rfl⟩:∃j:Nat,t=(j:Int):=⟨t.toNat,by omega⟩
    have hj:j<p.length:=by omega
    simp only[aE,aH,aG hj,be,HQ,show p[j].r.Methods=p[j].methods.map Me.e from rfl,lβ];by_cases h2:0≤m
    ·rw[if_pos h2];by_cases h3:m<(p[j].methods.length:Int)
     ·rw[if_pos h3];obtain⟨k,rfl⟩:∃k:Nat,m=(k:Int):=⟨m.toNat,by omega⟩
      have hk:k<p[j].methods.length:=by omega
      simp only[aG hk,Option.isSome_some]
     ·rw[if_neg h3,fZ (.inr (by omega))];rfl
    ·rw[if_neg h2,fZ (.inl (by omega))];rfl
   ·rw[if_neg h1,fZ (.inr (by omega))];rfl
  ·rw[if_neg h0,fZ (.inl (by omega))];rfl
def adS (p:List Ac)(x:aK):Option Int:=match Qk p x.Type_ x.Method with
 |some (a,m)=>(match eG m.nodes x.Node with
  |some y=>if y.op≤7 then((qS p a x.Method.toNat).bind fun ks=>ks[x.Node.toNat]?)else none
  |none=>none)
 |none=>none
theorem Ig {p:List Ac}{t:Nat}(hc:oS p=true){a:Ac}(ha:p[t]?=some a){k:Nat}(hk:k<a.methods.length):∃ks,qS p a k=some ks:=by
 have alln:∀(f:Nat→Bool) (e j i:Nat),sC f e j=true→j≤i→i<j+e→f i=true:=by
  intro f e;induction e with
  |zero=>intro j i _ h1 h2;omega
  |succ e ih=>
   intro j i h h1 h2;simp only[sC,lδ]at h;by_cases hij:i=j
   ·subst hij;exact h.1
   ·exact ih (j+1) i h.2 (by omega) (by omega)
 unfold oS at hc;rw[lδ]at hc;have htl:t<p.length:=by
  rcases lπ t p.length with h|h
  ·exact h
  ·rw[lζ h]at ha;cases ha
 have h1:=alln _ _ _ t hc.2 (Nat.zero_le _) (by omega);unfold SR at h1;rw[ha]at h1;simp only[lδ]at h1;exact Option.isSome_iff_exists.1 (alln _ _ _ k h1.2.2 (Nat.zero_le _) (by omega))
theorem ad7 {p:List Ac}{a:Ac}{k:Nat}{ks:List Int}{m:Me}(h:qS p a k=some ks)(hm:a.methods[k]?=some m):ks.length=m.nodes.length:=by
 unfold qS at h;rw[hm]at h;simp only at h;split at h
 ·cases h
 ·split at h
  ·rw[mρ]at h;obtain⟨c,hc,rfl⟩:=h;have key:∀(n i:Nat) (c c':RS),gB n i c=some c'→c'.ks.length=c.ks.length:=by
    intro n;induction n with
    |zero=>intro i c c' h;simp only[gB,lα]at h;rw[h]
    |succ n ih=>
     intro i c c' h;simp only[gB]at h;split at h
     ·cases h
     ·rename_i c1 h1;rw[ih _ _ _ h];unfold uP at h1;split at h1
      ·cases h1
      ·rw[mρ]at h1;obtain⟨k,_,rfl⟩:=h1;simp[RS.put]
   rw[key _ _ _ _ hc];simp[RS.ini]
  ·cases h
theorem UU {n:Nat}(p:List Ac)(hp:tU p)(hs:∀a∈p,QV n a)(hb:n≤200000000000000000000)(x:aK):evFn lay0.tab (n+3008) 22 [pD p,.p x.e] []=some (kiD (adS p x),[]):=by
 apply Vw (n+3007) ⟨p.map Ac.e⟩ x;have e1:=aa (wy (n:=n) p hp hs hb x.Type_ x.Method);unfold zn adS;simp only[show(D.p (ab.e ⟨p.map Ac.e⟩))=pD p from rfl,e1,ba,aC,aA];cases ho:Qk p x.Type_ x.Method with
 |none=>rfl
 |some am=>
  obtain⟨a,m⟩:=am;obtain⟨hc,j,k,h1,h2,h3,h4⟩:=aa1 ho;have hv:cN p=true:=by unfold oS at hc;rw[lδ]at hc;exact hc.1
  have hj:j<p.length:=by
   rcases lπ j p.length with h|h
   ·exact h
   ·rw[lζ h]at h3;cases h3
  have ha:p[j]=a:=by rw[lγ hj]at h3;exact Option.some.inj h3
  have hk:k<a.methods.length:=by
   rcases lπ k a.methods.length with h|h
   ·exact h
   ·rw[lζ h]at h4;cases h4
  have hm:a.methods[k]=m:=by rw[lγ hk]at h4;exact Option.some.inj h4
  obtain⟨ks,hks⟩:=Ig hc h3 hk;obtain⟨pl,e,l,g1,g2⟩:=AV (n:=n+2002) p hp hv j k hj (by rw[ha];exact hk);rw[ha,hks]at g2;obtain⟨rfl,rfl⟩:=g2;have hkl:=ad7 hks h4;simp only[Option.isSome_some,aP,h1,h2,aE,aH,eg,h3,h4,be,HQ,show a.r.Methods=a.methods.map Me.e from rfl,NK,show m.r.Nodes=m.nodes.map No.e from rfl,lβ,Int.toNat_natCast,hks,Option.bind_some,iR,bJ,dt];by_cases h0:x.Node<0
  ·rw[if_pos h0,fZ (.inl h0)];rfl
  ·rw[if_neg h0];by_cases h5:(m.nodes.length:Int)≤x.Node
   ·rw[if_pos h5,fZ (.inr h5)];rfl
   ·rw[if_neg h5];obtain⟨i,hi⟩:∃i:Nat,x.Node=(i:Int):=⟨x.Node.toNat,by omega⟩
    have hil:i<m.nodes.length:=by omega
    simp only[hi,aG hil,be,sI,Int.toNat_natCast];by_cases h7:m.nodes[i].op≤7
    ·rw[if_neg (show ¬7<m.nodes[i].r.Op by show ¬7<m.nodes[i].op;omega),if_pos h7];have g1':=aa g1;simp only[show ∀(q:List Ac),(D.p (Da.agg [Da.slice 3 (q.map Ac.e)]))=pD q from fun _=>rfl]at g1';simp only[g1',bt,cg,ba,bz,mW,aA,agn,aE,aH,aG (show i<l.length by omega),be,dI,lγ (show i<l.length by omega)];rfl
    ·rw[if_pos (show 7<m.nodes[i].r.Op by show 7<m.nodes[i].op;omega),if_neg h7];rfl
def aep (p:List Ac)(x:aK):Option Vr:=match Qk p x.Type_ x.Method with
 |some (a,m)=>(match eG m.nodes x.Node with
  |some y=>if y.op=2∨y.op=8∨y.op=9 then pW a m (qU m.nodes) x.Node.toNat y.name else none
  |none=>none)
 |none=>none
theorem UV {n:Nat}(p:List Ac)(hp:tU p)(hs:∀a∈p,QV n a)(hb:n≤200000000000000000000)(x:aK):evFn lay0.tab (n+3008) 25 [pD p,.p x.e] []=some (vaD (aep p x),[]):=by
 apply Vx (n+3007) ⟨p.map Ac.e⟩ x;have e1:=aa (wy (n:=n) p hp hs hb x.Type_ x.Method);unfold zo aep;simp only[show(D.p (ab.e ⟨p.map Ac.e⟩))=pD p from rfl,e1,ba,aC,aA];cases ho:Qk p x.Type_ x.Method with
 |none=>rfl
 |some am=>
  obtain⟨a,m⟩:=am;obtain⟨hc,j,k,h1,h2,h3,h4⟩:=aa1 ho;have hv:cN p=true:=by unfold oS at hc;rw[lδ]at hc;exact hc.1
  have ham:a∈p:=mα h3;have hmm:m∈a.methods:=mα h4;have hin:=Kj hp hv ham hmm;have hbo:=(q8 hv ham hmm).1;have hkd:∀x∈m.nodes,eN m.nodes.length x.kids:=fun x hx=>by
   obtain⟨i,hi,rfl⟩:=qα hx;intro y hy;obtain⟨g1,g2⟩:=CJ hbo i _ (lγ hi) y hy;exact⟨g1,by omega⟩
  have e2:=aa (wx (n:=n+2005) m.nodes hin.nl hkd hin.kl);simp only[Option.isSome_some,aP,h1,h2,aE,aH,eg,h3,h4,be,HQ,show a.r.Methods=a.methods.map Me.e from rfl,NK,show m.r.Nodes=m.nodes.map No.e from rfl,lβ,iR,bJ,dt];by_cases h0:x.Node<0
  ·rw[if_pos h0,fZ (.inl h0)];rfl
  ·rw[if_neg h0];by_cases h5:(m.nodes.length:Int)≤x.Node
   ·rw[if_pos h5,fZ (.inr h5)];rfl
   ·rw[if_neg h5];obtain⟨i,hi⟩:∃i:Nat,x.Node=(i:Int):=⟨x.Node.toNat,by omega⟩
    have hil:i<m.nodes.length:=by omega
    have e3:=aa (oH (n:=n+2006) a m (qU m.nodes) i m.nodes[i].name hin.fl hin.ql hin.pl hin.nl);simp only[Ac.e,Me.e]at e3;have hQ:kM ⟨p.map Ac.e⟩ x (bv lay0.tab (n+3007)) m.r m.nodes[i].r=some (vaD (pW a m (qU m.nodes) i m.nodes[i].name),[]):=by
     unfold kM;simp only[h1,hi,aE,aH,eg,h3,be,HQ,show m.r.Nodes=m.nodes.map No.e from rfl,e2,ba,mW,aA,Cc,e3,ZJ];cases pW a m (qU m.nodes) i m.nodes[i].name with
     |none=>rfl
     |some v=>
      obtain⟨vk,vs,vf⟩:=v;cases vf<;>rfl
    simp only[hi,aG hil,be,sI,rL,hQ,Int.toNat_natCast];have c2:aB m.nodes[i].op 2=decide (m.nodes[i].op=2):=aV _ _;have c8:aB m.nodes[i].op 8=decide (m.nodes[i].op=8):=aV _ _;have c9:aB m.nodes[i].op 9=decide (m.nodes[i].op=9):=aV _ _;rw[c2,c8,c9];by_cases o2:m.nodes[i].op=2
    ·rw[mδ o2,if_pos (.inl o2)];rfl
    ·rw[lω o2];by_cases o8:m.nodes[i].op=8
     ·rw[mδ o8,if_pos (.inr (.inl o8))];rfl
     ·rw[lω o8];by_cases o9:m.nodes[i].op=9
      ·rw[mδ o9,if_pos (.inr (.inr o9))];rfl
      ·rw[lω o9,if_neg (fun g=>g.elim o2 (fun g=>g.elim o8 o9))];rfl
def iQ (l:List No):List Pa:=(l.filter fun x=>decide (x.op=8)).map fun x=>⟨x.name,x.v.k⟩
def aaI (p:List Ac)(t m:Int):List Pa:=match Qk p t m with
 |some (_,m)=>m.params++iQ m.nodes
 |none=>[]
theorem Fa {m:Nat}(M:Me)(hn:M.nodes.length<1000)(hq':M.params.length<1000)(k0:gE→R):∀(e q j:Nat) (acc:List Pa),j+e=M.nodes.length→e<q→acc.length≤1000+j→
  L_r19Locals_1 (bv lay0.tab m) m k0 q (acc.length,(j:Int),M.r,acc.map Pa.e)=k0 ((acc++iQ (M.nodes.drop j)).length,(M.nodes.length:Int),M.r,(acc++iQ (M.nodes.drop j)).map Pa.e)
 |0,q+1,j,acc,h,_,_=>by
  obtain rfl:j=M.nodes.length:=by omega
  rw[sh];simp only[gQ,show M.r.Nodes=M.nodes.map No.e from rfl,lβ,bY,aS,List.drop_length,iQ,List.filter_nil,List.map_nil,mε]
 |e+1,q+1,j,acc,h,hq,ha=>by
  have hj:j<M.nodes.length:=by omega
  rw[sh,lμ hj];have hb:dM (acc.length+([Da.agg [.str M.nodes[j].name,.int .i64 M.nodes[j].v.k]]:LD).length) 24=true:=by
   unfold dM;rw[lδ,Nat.ble_eq,Nat.ble_eq];simp;omega
  have hm:acc.map Pa.e++[Da.agg [.str M.nodes[j].name,.int .i64 M.nodes[j].v.k]]=(acc++[(⟨M.nodes[j].name,M.nodes[j].v.k⟩:Pa)]).map Pa.e:=by rw[List.map_append];rfl
  simp only[gQ,show M.r.Nodes=M.nodes.map No.e from rfl,lβ,cT (show((j:Int)<(M.nodes.length:Int)) by omega),aP,aE,aH,aG hj,be,sI,rL,Cc,Gk,wS (show j<cb by unfold cb;omega),Nat.beq_refl,hb,hm];have c8:aB M.nodes[j].op 8=decide (M.nodes[j].op=8):=aV _ _;rw[c8];by_cases o8:M.nodes[j].op=8
  ·rw[mδ o8,aP,Fa M hn hq' k0 e q (j+1) (acc++[(⟨M.nodes[j].name,M.nodes[j].v.k⟩:Pa)]) (by omega) (by omega) (by simp;omega)];have:iQ (M.nodes[j]::M.nodes.drop (j+1))=(⟨M.nodes[j].name,M.nodes[j].v.k⟩:Pa)::iQ (M.nodes.drop (j+1)):=by
    unfold iQ;rw[List.filter_cons,if_pos (by simpa using o8)];rfl
   rw[this,mμ];rfl
  ·rw[lω o8,aS,Fa M hn hq' k0 e q (j+1) acc (by omega) (by omega) (by omega)];have:iQ (M.nodes[j]::M.nodes.drop (j+1))=iQ (M.nodes.drop (j+1)):=by
    unfold iQ;rw[List.filter_cons,if_neg (by simpa using o8)]
   rw[this]
theorem Mq {n:Nat}(p:List Ac)(hp:tU p)(hs:∀a∈p,QV n a)(hb:n≤200000000000000000000)(t m:Int):evFn lay0.tab (n+3008) 28 [pD p,.p (.int .i64 t),.p (.int .i64 m)] []=some (.p (.slice 2 ((aaI p t m).map Pa.e)),[]):=by
 apply M2 (n+3007) ⟨p.map Ac.e⟩ t m;have e1:=aa (wy (n:=n) p hp hs hb t m);unfold rS aaI;simp only[show(D.p (ab.e ⟨p.map Ac.e⟩))=pD p from rfl,e1,ba,aC,aA];cases ho:Qk p t m with
 |none=>rfl
 |some am=>
  obtain⟨a,M⟩:=am;obtain⟨hc,j,k,rfl,rfl,h3,h4⟩:=aa1 ho;have hv:cN p=true:=by unfold oS at hc;rw[lδ]at hc;exact hc.1
  have hin:=Kj hp hv (mα h3) (mα h4);have hq:=hin.ql;have hnl:=hin.nl;simp only[Option.isSome_some,aP,aE,aH,eg,h3,h4,be,HQ,show a.r.Methods=a.methods.map Me.e from rfl,NK,show M.r.Params=M.params.map Pa.e from rfl,lβ];have hbg:dM (0+M.params.length) 24=true:=by
   unfold dM;rw[lδ,Nat.ble_eq,Nat.ble_eq];have:M.params.length<1000:=hq;omega
  rw[hbg,aP];refine(Fa (m:=n+3007) M hnl hq _ M.nodes.length (n+3007) 0 M.params (by omega) (by have:M.nodes.length<1000:=hnl;omega) (by have:M.params.length<1000:=hq;omega)).trans ?_;simp only[List.drop_zero];rw[mκ (by simp)]
def sgR (p:List Ac)(t m:List Nat):Option Me:=bif oS p then jR p t m else none
theorem IE {m:Nat}(ps:List Pa)(u:ah)(hu:u.Params=ps.map Pa.e)(res:Int)(k0:gH→R)(hl:ps.length<1000):∀(e q j:Nat) (acc:List Int),j+e=ps.length→e<q→acc.length≤j→
  L_r19Lookup_1 (bv lay0.tab m) m k0 q ((j:Int),u,acc.length,res,acc.map iE)=k0 ((ps.length:Int),u,(acc++(ps.drop j).map (·.kind)).length,res,(acc++(ps.drop j).map (·.kind)).map iE)
 |0,q+1,j,acc,h,_,_=>by
  obtain rfl:j=ps.length:=by omega
  rw[si];simp only[gR,hu,lβ,bY,aS,List.drop_length,List.map_nil,mε]
 |e+1,q+1,j,acc,h,hq,ha=>by
  have hj:j<ps.length:=by omega
  rw[si,lμ hj];have hm:acc.map iE++[Da.int .i64 ps[j].kind]=(acc++[ps[j].kind]).map iE:=by rw[List.map_append];rfl
  have hb:dM (acc.length+([Da.int .i64 ps[j].kind]:LD).length) 8=true:=zS (by simp;omega);simp only[gR,hu,lβ,cT (show((j:Int)<(ps.length:Int)) by omega),aP,aE,aH,aG hj,be,ZH,show ps[j].r.Kind=ps[j].kind from rfl,hm,wS (show j<cb by unfold cb;omega),Nat.beq_refl,hb];refine(IE ps u hu res k0 hl e q (j+1) (acc++[ps[j].kind]) (by omega) (by omega) (by simp;omega)).trans ?_;simp only[mμ,List.singleton_append,List.map_cons]
theorem Mr {n:Nat}(p:List Ac)(hp:tU p)(hs:∀a∈p,QV n a)(hb:n≤200000000000000000000)(t m:List Nat):evFn lay0.tab (n+3008) 23 [pD p,.p (.str t),.p (.str m)] []=some (abb (sgR p t m),[]):=by
 apply M3 (n+3007) ⟨p.map Ac.e⟩ t m;have e0:=aa (rN (n:=n+2006) p t hp.ty);unfold rT sgR jR;rw[show(D.p (ab.e ⟨p.map Ac.e⟩))= .p (.agg [.slice 3 (p.map Ac.e)])from rfl,e0];simp only[ba,bz,aA];rw[xz (fun a:Ac=>a.name),←hD];cases hf:p.findIdx? fun a=>decide (a.name=t)with
 |none=>
  have e1:=aa (wy (n:=n) p hp hs hb (-1) 0);have:Qk p (-1) 0=none:=by unfold Qk;rw[fZ (.inl (by decide))];cases oS p<;>rfl
  rw[this]at e1;simp only[lI,e1,ba,aC,aA,Option.isSome_none,aS];cases oS p<;>rfl
 |some j=>
  have hj:=(lσ.1 hf).1;have e1:=aa (wy (n:=n) p hp hs hb (j:Int) 0);have e2:=aa (ur (n:=n+2006) p[j] m (hp.ac _ (lι _)).me);simp only[Ac.e]at e2;simp only[lI,e1,ba,aC,aA,lγ hj];unfold Qk;rw[aG hj];cases hc:oS p with
  |false=>rfl
  |true=>
   simp only[cond_true];cases hmm:p[j].methods with
   |nil=>
    rw[fZ (.inr (by simp))];rfl
   |cons x0 r0=>
    rw[←hmm];have h0:0<p[j].methods.length:=by rw[hmm];simp
    rw[show((0:Int))=((0:Nat):Int)from rfl,aG h0];simp only[Option.isSome_some,aP,aE,aH,aG hj,be,HQ,e2,ba,bz,aA];rw[xz (fun a:Me=>a.name),←hD];cases hg:p[j].methods.findIdx? fun a=>decide (a.name=m)with
    |none=>rfl
    |some w=>
     have hw:=(lσ.1 hg).1;have hps:=((hp.ac _ (lι hj)).mm _ (lι hw)).ps;simp only[lI,Bq (show ¬(w:Int)<0 by omega),aS,show p[j].r.Methods=p[j].methods.map Me.e from rfl,aE,aH,aG hw,be,NK,lγ hw];have g:=IE (m:=n+3007) p[j].methods[w].params p[j].methods[w].r rfl p[j].methods[w].r.Result (fun(i32,u33,n34,i35,l36)=>some ((.tup [(.p (.agg [(.slice 1 (List.take n34 (List.drop 0 l36))),(.int .i64 i35)])),(.p (.bool true))]),[])) hps p[j].methods[w].params.length (n+3007) 0 [] (by omega) (by omega) (by simp)
     refine Eq.trans g ?_;simp only[List.drop_zero,List.nil_append,abb,Option.map_some,Option.getD_some,Option.isSome_some];rw[mκ (by simp)];rfl
end
end Go.Ab
end
section
namespace Go.Ab
open Go
noncomputable section
theorem L5 (i:Int)(k:Nat):∀(l out:List Int),(∀y∈l,0≤y)→k<out.length→(FX i l out)[k]?=if(k:Int)∈l then some i else out[k]?
 |[],out,_,_=>by simp[FX]
 |y::r,out,h,hk=>by
  rw[FX,L5 i k r _ (fun z hz=>h z (lψ _ hz)) (by simpa using hk),List.getElem?_set];have h0:=h y (lυ ..);by_cases h1:(k:Int)∈r
  ·rw[if_pos h1,if_pos (lψ _ h1)]
  ·rw[if_neg h1];by_cases h2:y.toNat=k
   ·rw[if_pos h2,if_pos (by omega),if_pos (mζ.2 (.inl (by omega)))]
   ·rw[if_neg h2,if_neg];intro hm;rcases mζ.1 hm with e|e
    ·omega
    ·exact h1 e
theorem Lw (k:Nat):∀(l:List No) (i:Nat) (out:List Int),(∀x∈l,∀y∈x.kids,0≤y)→k<out.length→(∀x∈l,(k:Int)∉x.kids)→(AJ l i out)[k]?=out[k]?
 |[],_,_,_,_,_=>rfl
 |x::r,i,out,h,hk,hn=>by
  rw[AJ,Lw k r (i+1) _ (fun z hz=>h z (lψ _ hz)) (by rw[pY];exact hk) (fun z hz=>hn z (lψ _ hz)),L5 _ _ _ _ (h x (lυ ..)) hk,if_neg (hn x (lυ ..))]
theorem Uj (k:Nat):∀(r:List No) (i:Nat) (roots:List Int),eJ r i roots=true→k<i→(k:Int)∉roots→∀x∈r,(k:Int)∉x.kids
 |[],_,_,_,_,_,x,hx=>by cases hx
 |y::r,i,roots,h,hk,hn,x,hx=>by
  simp only[eJ]at h;split at h
  ·cases h
  ·split at h
   ·rename_i hd;rcases mζ.1 hx with rfl|hx
    ·rw[←hd];exact fun g=>hn (mπ g)
    ·refine Uj k r (i+1) _ h (by omega) (fun g=>?_) x hx;rcases mσ.1 g with g|g
     ·exact hn (mω g)
     ·simp at g;omega
   ·cases h
theorem Pt (k:Nat):∀(r:List No) (i:Nat) (roots:List Int),eJ r i roots=true→roots.Nodup→(∀y∈roots,y<(i:Int))→(∀x∈r,∀y∈x.kids,0≤y)→∀(j:Nat) x,r[j]?=some x→(k:Int)∈x.kids→∀out:List Int,k<out.length→(AJ r i out)[k]?=some ((i+j:Nat):Int)
 |[],_,_,_,_,_,_,j,x,hx,_,_,_=>by simp at hx
 |y::r,i,roots,h,hnd,hlt,h0,j,x,hx,hk,out,ho=>by
  simp only[eJ]at h;split at h
  ·cases h
  ·split at h
   ·rename_i hd;have hnd':=hnd;rw[←List.take_append_drop (roots.length - y.kids.length) roots,List.nodup_append]at hnd';obtain⟨n1,n2,n3⟩:=hnd';cases j with
    |zero=>
     simp only[List.getElem?_cons_zero,lα]at hx;subst hx;have hkd:(k:Int)∈roots.drop (roots.length - y.kids.length):=by rw[hd];exact hk
     have hki:=hlt _ (mπ hkd);rw[AJ,Lw k r _ _ (fun z hz=>h0 z (lψ _ hz)) (by rw[pY];exact ho) (Uj k r (i+1) _ h (by omega) (fun g=>?_)),L5 _ _ _ _ (h0 _ (lυ ..)) ho,if_pos hk]
     ·rfl
     ·rcases mσ.1 g with g|g
      ·exact n3 _ g _ hkd rfl
      ·simp at g;omega
    |succ j=>
     simp only[List.getElem?_cons_succ]at hx;rw[AJ,Pt k r (i+1) _ h ?_ ?_ (fun z hz=>h0 z (lψ _ hz)) j x hx hk _ (by rw[pY];exact ho)]
     ·congr 2;omega
     ·rw[List.nodup_append];refine⟨n1,by simp,fun a ha b hb e=>?_⟩
      have:=hlt a (mω ha);simp at hb;omega
     ·intro z hz;rcases mσ.1 hz with g|g
      ·have:=hlt z (mω g);omega
      ·simp at g;omega
   ·cases h
mutual
theorem HE.kids {ns:List No}{lo i:Nat}:HE ns lo i→∀(q:Nat) x,lo≤q→q≤i→ns[q]?=some x→∀k∈x.kids,(lo:Int)≤k∧k<q
 | .mk (x:=y) hy h,q,x,h1,h2,hx,k,hk=>by
  by_cases he:q=i
  ·subst he;rw[hy]at hx;simp only[lα]at hx;subst hx;exact h.all k hk
  ·exact h.kids q x h1 (by omega) hx k hk
theorem Ch.kids {ns:List No}{lo hi:Nat}{l:List Int}:Ch ns lo l hi→∀(q:Nat) x,lo≤q→q<hi→ns[q]?=some x→∀k∈x.kids,(lo:Int)≤k∧k<q
 | .nil,q,x,h1,h2,_,_,_=>by omega
 | .cons (k:=c) h g,q,x,h1,h2,hx,k,hk=>by
  have:=h.le;by_cases he:q≤c
  ·exact h.kids q x h1 he hx k hk
  ·have:=g.kids q x (by omega) h2 hx k hk;omega
theorem Ch.all {ns:List No}{lo hi:Nat}{l:List Int}:Ch ns lo l hi→∀k∈l,(lo:Int)≤k∧k<(hi:Int)
 | .nil,k,hk=>by cases hk
 | .cons (k:=c) h g,k,hk=>by
  have:=h.le;have:=g.le;rcases mζ.1 hk with rfl|hk
  ·omega
  ·have:=g.all k hk;omega
end
mutual
theorem HE.cov {ns:List No}{lo i:Nat}:HE ns lo i→∀j:Nat,lo≤j→j<i→∃(q:Nat) (x:No),lo≤q∧q≤i∧ns[q]?=some x∧(j:Int)∈x.kids
 | .mk (x:=y) hy h,j,h1,h2=>by
  rcases h.cov j h1 h2 with g|⟨q,x,g1,g2,g3,g4⟩
  ·exact⟨i,y,by omega,Nat.le_refl _,hy,g⟩
  ·exact⟨q,x,g1,by omega,g3,g4⟩
theorem Ch.cov {ns:List No}{lo hi:Nat}{l:List Int}:Ch ns lo l hi→∀j:Nat,lo≤j→j<hi→(j:Int)∈l∨∃(q:Nat) (x:No),lo≤q∧q<hi∧ns[q]?=some x∧(j:Int)∈x.kids
 | .nil,j,h1,h2=>by omega
 | .cons (k:=c) h g,j,h1,h2=>by
  have l1:=h.le;have l2:=g.le;by_cases e1:j=c
  ·subst e1;exact .inl (lυ ..)
  ·by_cases e2:j<c
   ·obtain⟨q,x,g1,g2,g3,g4⟩:=h.cov j h1 e2;exact .inr ⟨q,x,g1,by omega,g3,g4⟩
   ·rcases g.cov j (by omega) h2 with g|⟨q,x,g1,g2,g3,g4⟩
    ·exact .inl (lψ _ g)
    ·exact .inr ⟨q,x,by omega,g2,g3,g4⟩
end
structure Tr (ns:List No)(par:List Int):Prop where
 p1:∀(i:Nat) x,ns[i]?=some x→∀k:Nat,(k:Int)∈x.kids→par.getD k 0=i
 p2:∀j q:Nat,j<ns.length→par.getD j 0=q→∃x,ns[q]?=some x∧(j:Int)∈x.kids
 root:∃k:Nat,HE ns 0 k∧k+1=ns.length∧par.getD k 0= -1
theorem aio {ns:List No}(h:iM ns=true):Tr ns (qU ns):=by
 have hp:=HL h;have hkd:=CJ h;have h0:∀x∈ns,∀y∈x.kids,0≤y:=fun x hx y hy=>by
  obtain⟨i,hi,rfl⟩:=qα hx;exact(hkd i _ (lγ hi) y hy).1
 obtain⟨k,hs,hk⟩:=(Tk h).tree;have p1:∀(i:Nat) x,ns[i]?=some x→∀k:Nat,(k:Int)∈x.kids→(qU ns).getD k 0=i:=fun i x hx k hk=>by
  have:=xK hx;have:=hkd i x hx k hk;have e:=Pt k ns 0 [] hp (by simp) (fun y hy=>by cases hy) h0 i x hx hk (List.replicate ns.length (-1)) (by simp;omega);unfold qU;rw[lρ,e];simp
 have pr:(qU ns).getD k 0= -1:=by
  have e:=Lw k ns 0 (List.replicate ns.length (-1)) h0 (by simp;omega) (fun x hx hm=>by
   obtain⟨i,hi,rfl⟩:=qα hx;have:=hkd i _ (lγ hi) _ hm;omega)
  unfold qU;rw[lρ,e];simp[show k<ns.length by omega]
 refine⟨p1,fun j q hj hq=>?_,k,hs,hk,pr⟩
 have hjk:j≠k:=fun e=>by subst e;rw[pr]at hq;omega
 obtain⟨q',x,_,_,g3,g4⟩:=hs.cov j (Nat.zero_le _) (by omega);have:=p1 q' x g3 j g4;have e:q=q':=by omega
 subst e;exact⟨x,g3,g4⟩
theorem Tr.sub_in {ns:List No}{par:List Int}(t:Tr ns par){lo i:Nat}(h:HE ns lo i){j:Nat}(h1:lo≤j)(h2:j<i):(j:Int)<par.getD j 0∧par.getD j 0≤(i:Int):=by
 obtain⟨q,x,g1,g2,g3,g4⟩:=h.cov j h1 h2;have:=t.p1 q x g3 j g4;have:=h.kids q x g1 g2 g3 j g4;omega
theorem Tr.sub_out {ns:List No}{par:List Int}(t:Tr ns par){lo i:Nat}(h:HE ns lo i){j:Nat}(h1:j<lo):par.getD j 0<(lo:Int)∨(i:Int)<par.getD j 0:=by
 by_cases g:par.getD j 0<(lo:Int)
 ·exact .inl g
 by_cases g':(i:Int)<par.getD j 0
 ·exact .inr g'
 exfalso;obtain⟨q,hq⟩:∃q:Nat,par.getD j 0=(q:Int):=⟨(par.getD j 0).toNat,by omega⟩
 have:=h.lt;have:=h.le;obtain⟨x,g3,g4⟩:=t.p2 j q (by omega) hq;have:=h.kids q x (by omega) (by omega) g3 j g4;omega
def Qh (P:Nat→Bool)(s:List Nat):List No→Nat→Nat→Option Vr
 |[],_,_=>none
 |x::r,i,sl=>if x.op=8 then(if x.name=s∧P i=true then some ⟨x.v.k,sl,false⟩else Qh P s r (i+1) (sl+1))else Qh P s r (i+1) sl
theorem t5 {P Q:Nat→Bool}{s:List Nat}:∀(l:List No) (i sl:Nat),(∀(j:Nat) x,l[j]?=some x→x.op=8→x.name=s→P (i+j)=Q (i+j))→Qh P s l i sl=Qh Q s l i sl
 |[],_,_,_=>rfl
 |x::r,i,sl,h=>by
  have ih:∀sl,Qh P s r (i+1) sl=Qh Q s r (i+1) sl:=fun sl=>t5 r (i+1) sl fun j y hy h8 hn=>by
   have:=h (j+1) y hy h8 hn;rw[show i+1+j=i+(j+1) by omega];exact this
  simp only[Qh,ih];by_cases h8:x.op=8
  ·by_cases hn:x.name=s
   ·have:=h 0 x rfl h8 hn;rw[Nat.add_zero]at this;rw[this]
   ·simp[hn]
  ·simp[h8]
theorem EG {P:Nat→Bool}{s:List Nat}:∀(l:List No) (i sl:Nat),(∀j,i≤j→P j=false)→Qh P s l i sl=none
 |[],_,_,_=>rfl
 |x::r,i,sl,h=>by
  have ih:=fun sl=>EG (s:=s) r (i+1) sl fun j hj=>h j (by omega)
  simp[Qh,ih,h i (Nat.le_refl _)]
theorem J7 {P:Nat→Bool}{s:List Nat}{x:No}(post:List No)(h8:x.op=8)(hn:x.name=s):∀(pre:List No) (i sl:Nat),nA pre s=false→P (i+pre.length)=true→Qh P s (pre++x::post) i sl=some ⟨x.v.k,((sl+nB pre:Nat):Int),false⟩
 |[],i,sl,_,hP=>by
  simp only[List.nil_append,Qh,if_pos h8];rw[if_pos ⟨hn,hP⟩];rfl
 |y::pre,i,sl,hl,hP=>by
  unfold nA at hl;rw[List.any_cons,qκ,dB]at hl;simp only[List.cons_append,Qh];have ih:=fun sl=>J7 post h8 hn pre (i+1) sl hl.2 (by rw[show i+1+pre.length=i+(pre.length+1) by omega];exact hP)
  by_cases h:y.op=8
  ·rw[if_pos h,if_neg (fun g=>by have:=hl.1;rw[mδ h,g.1]at this;simp at this),ih];unfold nB;rw[List.filter_cons,if_pos (by simpa using h)];simp only[List.length_cons];congr 3;omega
  ·rw[if_neg h,ih];unfold nB;rw[List.filter_cons,if_neg (by simpa using h)]
def sgt (par:List Int)(b i:Nat):Bool:=decide (i<b)&&decide ((b:Int)≤par.getD i 0)
def atP (par:List Int)(b i:Nat):Bool:=decide (i≤b)&&(decide (i=b)||decide ((b:Int)<par.getD i 0))
theorem LB (par:List Int)(b:Nat)(s:List Nat):∀(l:List No) (i sl:Nat),FF par b s l i sl=Qh (atP par b) s l i sl
 |[],_,_=>rfl
 |x::r,i,sl=>by
  simp only[FF,Qh,LB par b s r];by_cases h:i≤b
  ·rw[if_pos h];by_cases h8:x.op=8
   ·rw[if_pos h8,if_pos h8];have:(x.name=s∧(i=b∨(b:Int)<par.getD i 0))↔(x.name=s∧atP par b i=true):=by
     unfold atP;simp[h]
    by_cases g:x.name=s∧atP par b i=true
    ·rw[if_pos g,if_pos (this.2 g)]
    ·rw[if_neg g,if_neg (fun e=>g (this.1 e))]
   ·rw[if_neg h8,if_neg h8]
  ·rw[if_neg h];have hf:∀j,i≤j→atP par b j=false:=fun j hj=>by unfold atP;rw[lω (show ¬j≤b by omega)];rfl
   have:=EG (s:=s) (x::r) i sl hf;simp only[Qh]at this;exact this.symm
end
end Go.Ab
end
section
namespace Go.Ab
open Go
noncomputable section
structure Bf (r:RS):Prop where
 tr:Tr r.m.nodes r.par
 ok:Gy r
 kv:∀x∈r.m.nodes,cm r.m.nodes x=true
 bn:∀x∈r.m.nodes,x.op=5→(binO.any fun t=>aO x.name t)=true
 r18:cK r.m.nodes ((r.m.nodes.length - 1:Nat):Int)=18
theorem Bf.put {r:RS}(h:Bf r)(i:Nat)(k:Int):Bf (r.put i k):=⟨h.tr,h.ok.put i k,h.kv,h.bn,h.r18⟩
theorem aay {ns:List No}{x:No}(h:cm ns x=true):1≤x.op∧x.op≤18:=by
 unfold cm at h;simp only[aV]at h;refine Classical.byContradiction fun g=>?_
 have e:∀n:Int,1≤n→n≤18→decide (x.op=n)=false:=fun n h1 h2=>lω fun e=>g (by omega)
 simp only[e _ (show(1:Int)≤1 by omega) (by omega),e 2 (by omega) (by omega),e 3 (by omega) (by omega),e 4 (by omega) (by omega),e 5 (by omega) (by omega),e 6 (by omega) (by omega),e 7 (by omega) (by omega),e 8 (by omega) (by omega),e 9 (by omega) (by omega),e 10 (by omega) (by omega),e 11 (by omega) (by omega),e 12 (by omega) (by omega),e 13 (by omega) (by omega),e 14 (by omega) (by omega),e 15 (by omega) (by omega),e 16 (by omega) (by omega),e 17 (by omega) (by omega),e 18 (by omega) (by omega),cond_false]at h;cases h
theorem aax {ns:List No}{x:No}(h:cm ns x=true){k:Int}(hk:k∈x.kids):(x.op=18→cK ns k≠18)∧(x.op≠18→cK ns k≠8):=by
 have all0:∀f,dL ns x 0 f=true→f (cK ns k)=true:=fun f hf=>by
  unfold dL at hf;rw[List.drop_zero,mη]at hf;exact hf k hk
 have hif:∀n,Og ns x n=true→cK ns k≠8:=fun n hf=>by
  unfold Og dL at hf;simp only[lδ,mη]at hf;cases hx:x.kids with
  |nil=>rw[hx]at hk;cases hk
  |cons y t=>
   rw[hx]at hk hf;rcases mζ.1 hk with rfl|hk
   ·have:=hf.2.1;simp only[List.headD_cons,ed,bJ,lδ,lη]at this;omega
   ·have:=hf.2.2 k (by simpa using hk);simp only[Eo,aV,lη]at this;omega
 have hc:ep x 0 0=true→False:=fun g=>by
  unfold ep at g;simp only[lδ,bJ,lη]at g;have:=List.length_pos_of_mem hk;omega
 have r:=aay h;have hop:x.op=1∨x.op=2∨x.op=3∨x.op=4∨x.op=5∨x.op=6∨x.op=7∨x.op=8∨x.op=9∨x.op=10∨x.op=11∨x.op=12∨x.op=13∨x.op=14∨x.op=15∨x.op=16∨x.op=17∨x.op=18:=by omega
 unfold cm at h;rcases hop with o|o|o|o|o|o|o|o|o|o|o|o|o|o|o|o|o|o<;>(simp only[o,aV,Int.reduceEq,decide_false,decide_true,cond_true,cond_false,lδ]at h);all_goals first
  |exact(hc h).elim
  |exact⟨fun e=>by omega,fun _=>hif _ h⟩
  |(
    have:=all0 _ h.2;simp only[ed,sW,zW,bJ,aV,lδ,qδ,lη]at this;exact⟨fun e=>by omega,fun _=>by omega⟩)
  |(
    have:=all0 _ h;simp only[Cz,bJ,lδ,lη]at this;exact⟨fun _=>by omega,fun e=>by omega⟩)
theorem pS {ns:List No}{i:Nat}{x:No}(h:ns[i]?=some x):cK ns (i:Int)=x.op:=by unfold cK;rw[eg,h];rfl
theorem Bf.letp {r:RS}(h:Bf r){j b:Nat}{x y:No}(hx:r.m.nodes[j]?=some x)(h8:x.op=8)(hy:r.m.nodes[b]?=some y)(hb:y.op≠18):r.par.getD j 0≠(b:Int):=fun e=>by
 obtain⟨z,hz,hm⟩:=h.tr.p2 j b (xK hx) e;rw[hy]at hz;simp only[lα]at hz;subst hz;have:=(aax (h.kv _ (mα hy)) hm).2 hb;rw[pS hx]at this;exact this h8
theorem Bf.up {r:RS}(h:Bf r){i:Nat}{x:No}(hx:r.m.nodes[i]?=some x)(h18:x.op≠18):(i:Int)<r.par.getD i 0:=by
 obtain⟨k,hs,hk,_⟩:=h.tr.root;have hi:=xK hx;have hne:i≠k:=fun e=>by
  subst e;have:=h.r18;rw[show r.m.nodes.length - 1=i by omega,pS hx]at this;exact h18 this
 exact(h.tr.sub_in hs (Nat.zero_le _) (show i<k by omega)).1
def Ql (r:RS)(b:Nat)(s:List Nat):Option Vr:=match r.m.params.findIdx? fun f=>aO f.name s with
 |some j=>r.m.params[j]?.map fun f=>⟨f.kind,j,false⟩
 |none=>Qh (sgt r.par b) s r.m.nodes 0 r.m.params.length
def Wz (r:RS)(s:List Nat):Option Vr:=match r.a.fields.findIdx? fun f=>aO f.name s with
 |some j=>r.a.fields[j]?.map fun f=>⟨f.kind,j,true⟩
 |none=>none
def kiM (r:RS)(b:Nat)(i:Int):Option Int:=match eG r.m.nodes i with
 |some x=>if i<(b:Int)∧x.op≤7 then r.ks[i.toNat]? else none
 |none=>none
def vaM (r:RS)(b:Nat)(i:Int):Option Vr:=match eG r.m.nodes i with
 |some x=>if i<(b:Int)∧(x.op=2∨x.op=8∨x.op=9)then pW r.a r.m r.par i.toNat x.name else none
 |none=>none
structure HD (c:CS)(r:RS)(b:Nat):Prop where
 er:c.er=0
 ns:c.ns=r.m.nodes
 pr:c.pr=r.p
 re:c.re=r.m.result
 fs:∀s,cY c.fs s=Wz r s
 ki:∀i,lG c.ki i=kiM r b i
 va:∀i,lG c.va i=vaM r b i
 lo:c.lo=r.m.params++iQ (r.m.nodes.take b)
 l8:c.lo.length≤8
 le:∀s,cY c.le s=if((r.m.params.any fun f=>aO f.name s)||nA (r.m.nodes.take b) s)=true then some true else none
 sc:∀s,cY c.sc s=Ql r b s
theorem abs {ns:List No}{i:Nat}{x:No}(hx:ns[i]?=some x):ns.take (i+1)=ns.take i++[x]:=by
 rw[List.take_add_one,hx];rfl
theorem KO {ns:List No}{i:Nat}{x:No}(hx:ns[i]?=some x):iQ (ns.take (i+1))=iQ (ns.take i)++if x.op=8 then[⟨x.name,x.v.k⟩]else[]:=by
 rw[abs hx];unfold iQ;rw[List.filter_append,List.map_append];by_cases h:x.op=8<;>simp[h]
theorem R2 {ns:List No}{i:Nat}{x:No}(hx:ns[i]?=some x)(s:List Nat):nA (ns.take (i+1)) s=(nA (ns.take i) s||(decide (x.op=8)&&aO x.name s)):=by
 rw[abs hx];unfold nA;rw[List.any_append];simp
theorem H9 (l:List No):(iQ l).length=nB l:=by unfold iQ nB;simp
theorem ae7 {r:RS}(hl:r.ks.length=r.m.nodes.length){i:Nat}{x:No}(hx:r.m.nodes[i]?=some x)(k j:Int):kiM (r.put i k) (i+1) j=if x.op≤7∧j=(i:Int)then some k else kiM r i j:=by
 unfold kiM RS.put;have hi:=xK hx;by_cases hj:j=(i:Int)
 ·subst hj;simp only[eg,hx,Int.toNat_natCast];by_cases h7:x.op≤7
  ·rw[if_pos ⟨by omega,h7⟩,if_pos ⟨h7,trivial⟩,qγ (by omega)]
  ·rw[if_neg (fun g=>h7 g.2),if_neg (fun g=>h7 g.1),if_neg (fun g=>h7 g.2)]
 ·rw[if_neg (fun g=>hj g.2)];cases ha:eG r.m.nodes j with
  |none=>rfl
  |some y=>
   obtain⟨q,rfl,_⟩:=ij ha;have hne:i≠q:=fun e=>hj (by rw[e])
   simp only[Int.toNat_natCast,mυ hne];by_cases g:(q:Int)<(i:Int)∧y.op≤7
   ·rw[if_pos g,if_pos ⟨by omega,g.2⟩]
   ·rw[if_neg g,if_neg (fun e=>g ⟨by omega,e.2⟩)]
theorem Qa {r:RS}{i:Nat}{x:No}(hx:r.m.nodes[i]?=some x)(k j:Int):vaM (r.put i k) (i+1) j=if(x.op=2∨x.op=8∨x.op=9)∧j=(i:Int)then pW r.a r.m r.par i x.name else vaM r i j:=by
 unfold vaM RS.put;by_cases hj:j=(i:Int)
 ·subst hj;simp only[eg,hx,Int.toNat_natCast];by_cases h7:x.op=2∨x.op=8∨x.op=9
  ·rw[if_pos ⟨by omega,h7⟩,if_pos ⟨h7,trivial⟩]
  ·rw[if_neg (fun g=>h7 g.2),if_neg (fun g=>h7 g.1),if_neg (fun g=>h7 g.2)]
 ·rw[if_neg (fun g=>hj g.2)];cases ha:eG r.m.nodes j with
  |none=>rfl
  |some y=>
   obtain⟨q,rfl,_⟩:=ij ha;have hne:i≠q:=fun e=>hj (by rw[e])
   simp only[Int.toNat_natCast];by_cases g:(q:Int)<(i:Int)∧(y.op=2∨y.op=8∨y.op=9)
   ·rw[if_pos g,if_pos ⟨by omega,g.2⟩]
   ·rw[if_neg g,if_neg (fun e=>g ⟨by omega,e.2⟩)]
theorem afe {r:RS}(h:Bf r){i:Nat}{x:No}(hx:r.m.nodes[i]?=some x)(h18:x.op≠18){s:List Nat}(h8:x.op=8→x.name≠s):Ql r (i+1) s=Ql r i s:=by
 unfold Ql;split
 ·rfl
 ·refine t5 _ _ _ fun j y hy o hn=>?_
  rw[Nat.zero_add];have hp:=h.letp hy o hx h18;unfold sgt;by_cases e:j=i
  ·subst e;rw[hx]at hy;simp only[lα]at hy;subst hy;exact absurd hn (h8 o)
  ·rw[show decide (j<i+1)=decide (j<i)from decide_eq_decide.2 ⟨fun _=>by omega,fun _=>by omega⟩,show decide (((i+1:Nat):Int)≤r.par.getD j 0)=decide ((i:Int)≤r.par.getD j 0)from decide_eq_decide.2 ⟨fun _=>by omega,fun _=>by omega⟩]
theorem EJ {c:CS}{r:RS}{i:Nat}(h:Bf r)(hm:HD c r i){x:No}(hx:r.m.nodes[i]?=some x)(h18:x.op≠18)(h8:x.op≠8)(s:List Nat):pM c s=pW r.a r.m r.par i s:=by
 unfold pM pW;rw[hm.fs,hm.sc];unfold Wz;cases hf:r.a.fields.findIdx? fun f=>aO f.name s with
 |some j=>
  have hj:=(lσ.1 hf).1;simp only[lγ hj,Option.map_some]
 |none=>
  unfold Ql;simp only;cases r.m.params.findIdx? fun f=>aO f.name s with
  |some j=>rfl
  |none=>
   simp only;unfold Iy;rw[LB];refine t5 _ _ _ fun j y hy o hn=>?_
   rw[Nat.zero_add];have hp:=h.letp hy o hx h18;have hne:j≠i:=fun e=>by
    subst e;rw[hx]at hy;simp only[lα]at hy;subst hy;exact h8 o
   unfold sgt atP;rw[lω hne,Bool.false_or,show decide (j≤i)=decide (j<i)from decide_eq_decide.2 ⟨fun _=>by omega,fun _=>by omega⟩,show decide ((i:Int)≤r.par.getD j 0)=decide ((i:Int)<r.par.getD j 0)from decide_eq_decide.2 ⟨fun _=>by omega,fun _=>by omega⟩]
theorem xw {α:Type}{l:List α}{f:α→Bool}(h:l.any f=false):l.findIdx? f=none:=by
 rw[mχ];intro x hx;rw[qθ]at h;simpa using h x hx
theorem ag0 {r:RS}(h:Bf r){i:Nat}{x:No}(hx:r.m.nodes[i]?=some x)(h8:x.op=8)(hl:nA (r.m.nodes.take i) x.name=false)(hp:(r.m.params.any fun f=>aO f.name x.name)=false)(hf:(r.a.fields.any fun f=>aO f.name x.name)=false):
  pW r.a r.m r.par i x.name=some ⟨x.v.k,((r.m.params.length+nB (r.m.nodes.take i):Nat):Int),false⟩∧Ql r (i+1) x.name=some ⟨x.v.k,((r.m.params.length+nB (r.m.nodes.take i):Nat):Int),false⟩:=by
 have hi:=xK hx;have hsp:r.m.nodes=r.m.nodes.take i++x::r.m.nodes.drop (i+1):=by
  have:=List.take_append_drop i r.m.nodes;rw[lμ hi]at this;rw[lγ hi]at hx;simp only[lα]at hx;rw[hx]at this;exact this.symm
 have hlen:(r.m.nodes.take i).length=i:=by simp;omega
 have hup:=h.up hx (by omega);constructor
 ·unfold pW Iy;rw[xw hf,xw hp];simp only;rw[LB,hsp];have:=J7 (P:=atP r.par i) (s:=x.name) (r.m.nodes.drop (i+1)) h8 rfl (r.m.nodes.take i) 0 r.m.params.length hl (by rw[hlen,Nat.zero_add];unfold atP;simp);rw[this,←hsp]
 ·unfold Ql;rw[xw hp];simp only;have:=J7 (P:=sgt r.par (i+1)) (s:=x.name) (r.m.nodes.drop (i+1)) h8 rfl (r.m.nodes.take i) 0 r.m.params.length hl (by rw[hlen,Nat.zero_add];unfold sgt;rw[mδ (show i<i+1 by omega),mδ (show(((i+1:Nat):Int))≤r.par.getD i 0 by omega)];rfl)
  rw[←hsp]at this;exact this
end
end Go.Ab
end
section
namespace Go.Ab
open Go
noncomputable section
theorem KU {c c2:CS}{r:RS}{i:Nat}{x:No}(h:Bf r)(hm:HD c r i)(hx:r.m.nodes[i]?=some x)(h18:x.op≠18)(k:Int)(e1:c2.er=0)(hst:fj c c2)(eki:c2.ki=c.ki)
  (hva:∀j,lG c2.va j=vaM (r.put i k) (i+1) j) (hlo:c2.lo=r.m.params++iQ (r.m.nodes.take (i+1))) (hl8:c2.lo.length≤8)
  (hle:∀s,cY c2.le s=if((r.m.params.any fun f=>aO f.name s)||nA (r.m.nodes.take (i+1)) s)=true then some true else none) (hsc:∀s,cY c2.sc s=Ql r (i+1) s):HD (iS c2 i x k) (r.put i k) (i+1):=by
 obtain⟨n1,n2,n3,n4⟩:=WM c2 i x k;have hs2:=hst.trans (Ik c2 i x k);refine⟨by rw[CW];exact e1,hs2.ns.trans hm.ns,hs2.pr.trans hm.pr,hs2.re.trans hm.re,fun s=>by rw[hs2.fs];exact hm.fs s,fun j=>?_,fun j=>by rw[n1];exact hva j,by rw[n3];exact hlo,by rw[n3];exact hl8,fun s=>?_,fun s=>by rw[n2];exact hsc s⟩
 ·rw[adR,eki,ae7 h.ok.sl hx,hm.ki]
 ·have:(iS c2 i x k).le=c2.le:=by unfold iS;split<;>rfl
  rw[this];exact hle s
theorem letR_t {r:RS}{i:Nat}{x:No}{kk:List Int}:R3 r i x kk=true↔(nA (r.m.nodes.take i) x.name=false∧(r.a.fields.any fun f=>aO f.name x.name)=false∧(r.m.params.any fun f=>aO f.name x.name)=false∧nB (r.m.nodes.take i)+1+r.m.params.length≤8∧kk.headD 0=x.v.k):=by
 unfold R3;simp only[lδ,Bool.not_eq_true',lη]
theorem ah6 {c c2:CS}{r:RS}{i:Nat}{x:No}{kl:List Int}{k:Int}(h:Bf r)(hm:HD c r i)(hx:r.m.nodes[i]?=some x)(h18:x.op≠18)(ho:OpR c i x kl k c2)(hlet:x.op=8→R3 r i x kl=true):HD (iS c2 i x k) (r.put i k) (i+1):=by
 have va0:(x.op≠2∧x.op≠8∧x.op≠9)→∀j,lG c.va j=vaM (r.put i k) (i+1) j:=fun g j=>by
  rw[Qa hx,if_neg (fun e=>by rcases e.1 with e|e|e;exact g.1 e;exact g.2.1 e;exact g.2.2 e),hm.va]
 have lo0:x.op≠8→c.lo=r.m.params++iQ (r.m.nodes.take (i+1)):=fun g=>by rw[KO hx,if_neg g,mε];exact hm.lo
 have le0:x.op≠8→∀s,cY c.le s=if((r.m.params.any fun f=>aO f.name s)||nA (r.m.nodes.take (i+1)) s)=true then some true else none:=fun g s=>by
  rw[R2 hx,lω g,Bool.false_and,Bool.or_false];exact hm.le s
 have sc0:x.op≠8→∀s,cY c.sc s=Ql r (i+1) s:=fun g s=>by rw[afe h hx h18 (fun e=>absurd e g)];exact hm.sc s
 cases ho with
 |same h2 h8 h9=>exact KU h hm hx h18 k hm.er (fj.refl _) rfl (va0 ⟨h2,h8,h9⟩) (lo0 h8) hm.l8 (le0 h8) (sc0 h8)
 | @var v h2 hf=>
  have h8:x.op≠8:=by omega
  rw[EJ h hm hx h18 h8]at hf;refine KU (c2:={c with va:=td c.va i v}) h hm hx h18 v.kind hm.er ⟨rfl,rfl,rfl,rfl⟩ rfl (fun j=>?_) (lo0 h8) hm.l8 (le0 h8) (sc0 h8);show lG (td c.va i v) j=_;rw[xC,Qa hx,hm.va,hf];by_cases e:j=(i:Int)
  ·rw[if_pos e,if_pos ⟨.inl h2,e⟩]
  ·rw[if_neg e,if_neg (fun g=>e g.2)]
 | @asg v rr h9 hks hf=>
  have h8:x.op≠8:=by omega
  rw[EJ h hm hx h18 h8]at hf;refine KU (c2:={c with va:=td c.va i v}) h hm hx h18 0 hm.er ⟨rfl,rfl,rfl,rfl⟩ rfl (fun j=>?_) (lo0 h8) hm.l8 (le0 h8) (sc0 h8);show lG (td c.va i v) j=_;rw[xC,Qa hx,hm.va,hf];by_cases e:j=(i:Int)
  ·rw[if_pos e,if_pos ⟨.inr (.inr h9),e⟩]
  ·rw[if_neg e,if_neg (fun g=>e g.2)]
 | @lett y rr h8 hks=>
  obtain⟨g1,g2,g3,g4,g5⟩:=letR_t.1 (hlet h8);rw[hks]at g5;simp only[List.headD_cons]at g5;subst g5;obtain⟨v1,v2⟩:=ag0 h hx h8 g1 g3 g2;have hlen:(c.lo.length:Int)=((r.m.params.length+nB (r.m.nodes.take i):Nat):Int):=by rw[hm.lo,mξ,H9]
  have hl2:c.lo.length=r.m.params.length+nB (r.m.nodes.take i):=by omega
  rw[←hlen]at v1 v2;refine KU (c2:={c with sc:=nC c.sc x.name ⟨x.v.k,c.lo.length,false⟩,le:=nC c.le x.name true,lo:=c.lo++[⟨x.name,x.v.k⟩],va:=td c.va i ⟨x.v.k,c.lo.length,false⟩}) h hm hx h18 0 hm.er ⟨rfl,rfl,rfl,rfl⟩ rfl (fun j=>?_) ?_ ?_ (fun s=>?_) (fun s=>?_)
  ·show lG (td c.va i _) j=_;rw[xC,Qa hx,hm.va,v1];by_cases e:j=(i:Int)
   ·rw[if_pos e,if_pos ⟨.inr (.inl h8),e⟩]
   ·rw[if_neg e,if_neg (fun g=>e g.2)]
  ·show c.lo++_=_;rw[KO hx,if_pos h8,hm.lo,mμ]
  ·show(c.lo++[(⟨x.name,x.v.k⟩:Pa)]).length≤8;simp only[mξ,List.length_singleton];omega
  ·show cY (nC c.le x.name true) s=_;rw[nf,R2 hx,hm.le,mδ h8,Bool.true_and,dB];by_cases e:s=x.name
   ·subst e;simp
   ·rw[if_neg e,lω (fun g=>e g.symm),Bool.or_false]
  ·show cY (nC c.sc x.name _) s=_;rw[nf];by_cases e:s=x.name
   ·subst e;rw[if_pos rfl,v2]
   ·rw[if_neg e,hm.sc,afe h hx h18 (fun _ g=>e g.symm)]
def NR (c:CS)(k:Int)(o:Option Int):Prop:=(c.er=0∧o=some k)∨(c.er≠0∧o=none)
theorem jL {c:CS}{i k:Int}{b:Bool}{o:Option Int}(hc:c.er=0)(ht:b=true→o=some k)(hf:b=false→o=none):NR (cn c i b) k o:=by
 cases b with
 |true=>exact .inl ⟨hc,ht rfl⟩
 |false=>exact .inr ⟨fun e=>absurd (tF e) (by simp),hf rfl⟩
theorem afE (s:List Nat)(x y:Int)(h:(En s x y).2=true):¬(En s x y).1<0:=by
 unfold En at h ⊢
 simp only[Bool.cond_eq_ite]at h ⊢
 repeat' split
 all_goals first
  |(simp;done)
  |(simp_all [aV];omega)
theorem agt {c:CS}{r:RS}{i:Nat}(hm:HD c r i)(s:List Nat):z7 c s=((r.a.fields.any fun f=>aO f.name s)||((r.m.params.any fun f=>aO f.name s)||nA (r.m.nodes.take i) s)):=by
 unfold z7;rw[hm.fs,hm.le];unfold Wz;cases hf:r.a.fields.findIdx? fun f=>aO f.name s with
 |some j=>
  have hj:=lσ.1 hf;obtain⟨h1,h2,_⟩:=hj;have:(r.a.fields.any fun f=>aO f.name s)=true:=qν.2 ⟨_,lι h1,h2⟩;rw[this];simp only[lγ h1,Option.map_some,Bool.true_or]
 |none=>
  have:(r.a.fields.any fun f=>aO f.name s)=false:=by
   rw[qθ];intro x hx;have:=mχ.1 hf x hx;simp[this]
  rw[this,Bool.false_or];cases(r.m.params.any fun f=>aO f.name s)||nA (r.m.nodes.take i) s<;>rfl
theorem ag7 {c c2:CS}{r:RS}{i:Nat}{x:No}{y:Int}{t:List Int}(hm:HD c r i)(h8:x.op=8)(ho:xV c i x y=some c2):NR c2 0 (cw r i x)∨iC r.ks x.kids≠y::t:=by
 by_cases hk:iC r.ks x.kids=y::t
 ·left;rw[LC r i x h8,hk];have hlo:c.lo.length=r.m.params.length+nB (r.m.nodes.take i):=by rw[hm.lo,mξ,H9]
  have hd:=agt hm x.name;by_cases hl:R3 r i x (y::t)=true
  ·rw[if_pos hl];obtain⟨g1,g2,g3,g4,g5⟩:=letR_t.1 hl;simp only[List.headD_cons]at g5;rw[g1,g2,g3]at hd;refine .inl ⟨?_,rfl⟩;unfold xV at ho;have e1:qR c i x=c:=by unfold qR;rw[if_neg (by rw[hd];decide),if_neg (by omega)]
   rw[e1,mδ g5]at ho;have e2:cn c i true=c:=rfl;rw[e2]at ho;unfold m5 at ho;rw[if_pos (by omega)]at ho;simp only[lα]at ho;subst ho;unfold mj pM;have hfs:cY c.fs x.name=none:=by
    rw[hm.fs];unfold Wz;rw[xw g2]
   simp only[hfs,nf,if_true];exact hm.er
  ·rw[if_neg hl];refine .inr ⟨fun h0=>hl ?_,rfl⟩
   unfold xV at ho;cases hdc:m5 (cn (qR c i x) i (decide (y=x.v.k))) x.name x.v.k with
   |none=>rw[hdc]at ho;cases ho
   |some c3=>
    rw[hdc]at ho;simp only[lα]at ho;subst ho;have e2:=SW h0;rw[JY hdc]at e2;have hy:=tF e2;simp only[lη]at hy;have e3:=kD e2;unfold qR at e3;split at e3
    ·exact absurd e3 (ky (by decide))
    ·rename_i hnd;split at e3
     ·exact absurd e3 (ky (by decide))
     ·rename_i h8';rw[hd]at hnd;simp only[Bool.not_eq_true,qκ]at hnd;have:=hm.l8;exact letR_t.2 ⟨hnd.2.2,hnd.1,hnd.2.1,by omega,by simpa using hy⟩
 ·exact .inr hk
theorem ag8 {c:CS}{r:RS}{i:Nat}{x:No}(h:Bf r)(hm:HD c r i)(hx:r.m.nodes[i]?=some x)(h18:x.op≠18)(h8:x.op≠8):(∃v,pW r.a r.m r.par i x.name=some v∧mj c i x.name=(v,{c with va:=td c.va i v}))∨(pW r.a r.m r.par i x.name=none∧(mj c i x.name).2.er≠0):=by
 have hf:=EJ h hm hx h18 h8 x.name;unfold mj;rw[hf];cases pW r.a r.m r.par i x.name with
 |some v=>exact .inl ⟨v,rfl,rfl⟩
 |none=>exact .inr ⟨rfl,ky (by decide)⟩
theorem agW (ks l:List Int):(iC ks l).length=l.length:=by unfold iC;simp
theorem ahe {c c2:CS}{r:RS}{i:Nat}{x:No}{k:Int}(h:Bf r)(hm:HD c r i)(hx:r.m.nodes[i]?=some x)(h18:x.op≠18)(ho:opT c i x (iC r.ks x.kids)=some (k,c2)):NR c2 k (cw r i x):=by
 have hkv:=h.kv _ (mα hx);have rg:=aay hkv;obtain⟨a1,a2,a3,a4,a5⟩:=aeK hkv;have hop:x.op=1∨x.op=2∨x.op=3∨x.op=4∨x.op=5∨x.op=6∨x.op=7∨x.op=8∨x.op=9∨x.op=10∨x.op=11∨x.op=12∨x.op=13∨x.op=14∨x.op=15∨x.op=16∨x.op=17:=by omega
 have hl:=agW r.ks x.kids;have huse:=ag8 h hm hx h18;rcases hop with o|o|o|o|o|o|o|o|o|o|o|o|o|o|o|o|o<;>(simp only[opT,EF,yA,o,Int.reduceEq,Int.reduceLE,if_true,if_false,or_true,true_or,or_false,false_or]at ho)
 ·simp only[lα,lε]at ho;obtain⟨rfl,rfl⟩:=ho;exact .inl ⟨hm.er,Um r i x o⟩
 ·simp only[lα,lε]at ho;obtain⟨rfl,rfl⟩:=ho;rw[Un r i x o];rcases huse (by omega)with⟨v,g1,g2⟩|⟨g1,g2⟩
  ·rw[g1,g2];exact .inl ⟨hm.er,rfl⟩
  ·rw[g1];exact .inr ⟨g2,rfl⟩
 ·simp only[lα,lε]at ho;obtain⟨rfl,rfl⟩:=ho;exact .inl ⟨hm.er,Uo r i x o⟩
 ·rw[Up r i x o];cases hk:iC r.ks x.kids with
  |nil=>rw[hk]at ho;cases ho
  |cons y t=>
   rw[hk]at ho;simp only[lα,lε]at ho;obtain⟨rfl,rfl⟩:=ho;refine jL hm.er (fun g=>?_) (fun g=>?_)
   ·rw[aV,lη]at g;exact if_pos g
   ·rw[aV,mγ]at g;exact if_neg g
 ·rw[Uq r i x o];match hk:iC r.ks x.kids,ho with
  |y::z::t,ho=>
   simp only[lα,lε]at ho;obtain⟨rfl,rfl⟩:=ho;have hb:=ahh (h.bn _ (mα hx) o) y z;simp only[List.getD_cons_zero,List.getD_cons_succ,hb];unfold ahi;refine jL hm.er (fun g=>?_) (fun g=>?_)
   ·rw[g,cond_true,if_neg (afE _ _ _ g)]
   ·rw[g,cond_false];rfl
 ·rw[Ur r i x o];simp only[lα,lε]at ho;obtain⟨rfl,rfl⟩:=ho;obtain⟨b1,b2⟩:=ahj x.name (iC r.ks x.kids);by_cases g:(fY x.name (iC r.ks x.kids)).2=0
  ·rw[if_neg (b1.1 g),b2 g];refine .inl ⟨?_,rfl⟩;unfold Ae;rw[if_pos g];exact hm.er
  ·rw[if_pos (Classical.byContradiction fun e=>g (b1.2 e))];refine .inr ⟨?_,rfl⟩;unfold Ae;rw[if_neg g];exact ky g
 ·rw[Us r i x o];unfold Rq at ho;unfold To;rw[hm.pr]at ho;cases hlk:jR r.p x.name x.v.s with
  |none=>
   rw[hlk]at ho;simp only[lα,lε]at ho;obtain⟨rfl,rfl⟩:=ho;exact .inr ⟨ky (by decide),rfl⟩
  |some m=>
   rw[hlk]at ho;cases hk:iC r.ks x.kids with
   |nil=>rw[hk]at ho;cases ho
   |cons y t=>
    rw[hk]at ho;simp only[lα,lε]at ho;obtain⟨rfl,rfl⟩:=ho;refine jL hm.er (fun g=>?_) (fun g=>?_)
    ·simp only[lδ,lη]at g;exact if_pos g
    ·refine if_neg fun e=>?_
     have e1:y=3:=e.1;have e2:t=m.params.map (·.kind):=e.2;rw[mδ e1,mδ e2]at g;cases g
 ·cases hk:iC r.ks x.kids with
  |nil=>rw[hk]at ho;cases ho
  |cons y t=>
   rw[hk]at ho;simp only at ho;cases hs:xV c i x y with
   |none=>rw[hs]at ho;cases ho
   |some c3=>
    rw[hs]at ho;simp only[lα,lε]at ho;obtain⟨rfl,rfl⟩:=ho;rcases ag7 (t:=t) hm o hs with g|g
    ·exact g
    ·exact absurd hk g
 ·rw[Ut r i x o];cases hk:iC r.ks x.kids with
  |nil=>rw[hk]at ho;cases ho
  |cons y t=>
   rw[hk]at ho;simp only[lα,lε]at ho;obtain⟨rfl,rfl⟩:=ho;rcases huse (by omega)with⟨v,g1,g2⟩|⟨g1,g2⟩
   ·rw[g1,g2];refine jL hm.er (fun g=>?_) (fun g=>?_)
    ·simp only[lη]at g;exact if_pos g.symm
    ·simp only[mγ]at g;exact if_neg (fun e=>g (Eq.symm e))
   ·rw[g1];exact .inr ⟨fun e=>g2 (kD e),rfl⟩
 ·simp only[lα,lε]at ho;obtain⟨rfl,rfl⟩:=ho;exact .inl ⟨hm.er,by simp only[cw,o,Int.reduceEq,if_false]⟩
 ·rw[Pz r i x o];cases hk:iC r.ks x.kids with
  |nil=>rw[hk]at ho;cases ho
  |cons y t=>
   rw[hk]at ho;simp only[lα,lε]at ho;obtain⟨rfl,rfl⟩:=ho;exact jL hm.er (fun g=>if_pos (of_decide_eq_true g)) (fun g=>if_neg (of_decide_eq_false g))
 ·rw[PA r i x o];cases hk:iC r.ks x.kids with
  |nil=>rw[hk]at ho;cases ho
  |cons y t=>
   rw[hk]at ho;simp only[lα,lε]at ho;obtain⟨rfl,rfl⟩:=ho;exact jL hm.er (fun g=>if_pos (of_decide_eq_true g)) (fun g=>if_neg (of_decide_eq_false g))
 ·rw[PB r i x o];rw[hm.re]at ho;cases hk:iC r.ks x.kids with
  |nil=>
   rw[hk]at ho;simp only[lα,lε]at ho;obtain⟨rfl,rfl⟩:=ho;refine jL hm.er (fun g=>if_pos ?_) (fun g=>if_neg ?_)
   ·by_cases e:r.m.result=0
    ·exact e
    ·rw[lω e]at g;cases g
   ·intro e;rw[mδ e]at g;cases g
  |cons y t=>
   rw[hk]at ho;simp only[lα,lε]at ho;obtain⟨rfl,rfl⟩:=ho;by_cases e:r.m.result=0
   ·rw[mδ e];refine .inr ⟨fun g=>?_,if_neg (fun g=>g.1 e)⟩
    have:=tF (kD g);cases this
   ·rw[lω e];show NR (cn (cn c i true) i _) 0 _;refine jL (show(cn c i true).er=0 from hm.er) (fun g=>if_pos ⟨e,of_decide_eq_true g⟩) (fun g=>if_neg (fun q=>of_decide_eq_false g q.2))
 ·simp only[lα,lε]at ho;obtain⟨rfl,rfl⟩:=ho;exact .inl ⟨hm.er,by simp only[cw,o,Int.reduceEq,if_false]⟩
 ·rw[PC r i x o];simp only[lα,lε]at ho;obtain⟨rfl,rfl⟩:=ho;exact jL hm.er (fun g=>if_pos (of_decide_eq_true g)) (fun g=>if_neg (of_decide_eq_false g))
 ·rw[PD r i x o];simp only[lα,lε]at ho;obtain⟨rfl,rfl⟩:=ho;exact jL hm.er (fun g=>if_pos (of_decide_eq_true g)) (fun g=>if_neg (of_decide_eq_false g))
 ·rw[PE r i x o];cases hk:iC r.ks x.kids with
  |nil=>rw[hk]at ho;cases ho
  |cons y t=>
   rw[hk]at ho;simp only[lα,lε]at ho;obtain⟨rfl,rfl⟩:=ho;exact jL hm.er (fun g=>if_pos (of_decide_eq_true g)) (fun g=>if_neg (of_decide_eq_false g))
end
end Go.Ab
end
section
namespace Go.Ab
open Go
noncomputable section
theorem C5:∀(a b i:Nat) (r:RS),gB (a+b) i r=match gB a i r with|none=>none|some r1=>gB b (i+a) r1
 |0,b,i,r=>by simp only[gB,Nat.zero_add,Nat.add_zero]
 |a+1,b,i,r=>by
  rw[show a+1+b=(a+b)+1 by omega];simp only[gB];cases uP r i with
  |none=>rfl
  |some r1=>
   simp only;rw[C5 a b (i+1) r1,show i+1+a=i+(a+1) by omega]
theorem FS:∀(n i:Nat) {r r':RS},Bf r→gB n i r=some r'→Bf r'
 |0,_,r,r',h,e=>by simp only[gB,lα]at e;subst e;exact h
 |n+1,i,r,r',h,e=>by
  simp only[gB]at e;cases hs:uP r i with
  |none=>rw[hs]at e;cases e
  |some r1=>
   rw[hs]at e;refine FS n (i+1) ?_ e;unfold uP at hs;split at hs
   ·cases hs
   ·rw[mρ]at hs;obtain⟨k,_,rfl⟩:=hs;exact h.put i k
theorem P0:∀(n i:Nat) {r r':RS},gB n i r=some r'→∀j,j<i→r'.ks.getD j 0=r.ks.getD j 0
 |0,_,r,r',e,j,hj=>by simp only[gB,lα]at e;subst e;rfl
 |n+1,i,r,r',e,j,hj=>by
  simp only[gB]at e;cases hs:uP r i with
  |none=>rw[hs]at e;cases e
  |some r1=>
   rw[hs]at e;rw[P0 n (i+1) e j (by omega)];unfold uP at hs;split at hs
   ·cases hs
   ·rw[mρ]at hs;obtain⟨k,_,rfl⟩:=hs;show(r.ks.set i k).getD j 0=_;rw[lρ,lρ,mυ (by omega)]
def afq (M:Me)(P:List Int)(f:Nat):Prop:=∀(lo i:Nat),HE M.nodes lo i→∀(x:No),M.nodes[i]?=some x→∀(r:RS) (c:CS) (d:Bool) (k:Int) (c':CS),r.m=M→r.par=P→Bf r→HD c r lo→(x.op≠18→d=uh M.nodes P i)→(x.op=18→uh M.nodes P i=false)→kg f c (i:Int) d=some (k,c')→
 (c'.er=0∧(x.op≠18→d=false)∧∃r',gB (i+1 - lo) lo r=some r'∧HD c' r' (i+1)∧k=r'.ks.getD i 0)∨(c'.er≠0∧gB (i+1 - lo) lo r=none)
theorem abm {ns:List No}{lo i:Nat}(h:HE ns lo i):∃x,ns[i]?=some x:=⟨_,lγ h.lt⟩
theorem Ol {M:Me}{P:List Int}{f:Nat}(hv:afq M P f):∀(l:List Int) (lo hi:Nat),Ch M.nodes lo l hi→∀(r:RS) (c:CS) (kl:List Int) (c':CS),r.m=M→r.par=P→Bf r→HD c r lo→(∀k:Nat,(k:Int)∈l→uh M.nodes P k=false)→hH (fun c k=>kg f c k false) c l=some (kl,c')→
  (c'.er=0∧∃r',gB (hi - lo) lo r=some r'∧HD c' r' hi∧kl=iC r'.ks l)∨(c'.er≠0∧gB (hi - lo) lo r=none)
 |[],lo,hi,h,r,c,kl,c',hm,hp,hb,hc,ha,hk=>by
  cases h;simp only[hH,lα,lε]at hk;obtain⟨rfl,rfl⟩:=hk;rw[Nat.sub_self];exact .inl ⟨hc.er,r,rfl,hc,rfl⟩
 |_::l,lo,hi,h,r,c,kl,c',hm,hp,hb,hc,ha,hk=>by
  cases h with
  | @cons _ q _ _ h1 h2=>
   have l1:=h1.le;have l2:=h2.le;obtain⟨x,hx⟩:=abm h1;simp only[hH]at hk;cases e1:kg f c (q:Int) false with
   |none=>rw[e1]at hk;cases hk
   |some r1=>
    obtain⟨y,c1⟩:=r1;rw[e1]at hk;simp only at hk;cases e2:hH (fun c k=>kg f c k false) c1 l with
    |none=>rw[e2]at hk;cases hk
    |some r2=>
     obtain⟨ys,c2⟩:=r2;rw[e2]at hk;simp only[lα,lε]at hk;obtain⟨rfl,rfl⟩:=hk;have hq:=ha q (lυ ..);rw[show hi - lo=(q+1 - lo)+(hi - (q+1)) by omega,C5,show lo+(q+1 - lo)=q+1 by omega];rcases hv lo q h1 x hx r c false y c1 hm hp hb hc (fun _=>hq.symm) (fun _=>hq) e1 with⟨g1,_,r1,g2,g3,g4⟩|⟨g1,g2⟩
     ·rw[g2];obtain⟨m1,_,_,m4⟩:=IG _ _ _ _ g2;rcases Ol hv l (q+1) hi h2 r1 c1 ys c2 (m1.trans hm) (m4.trans hp) (FS _ _ hb g2) g3 (fun k hk=>ha k (lψ _ hk)) e2 with⟨b1,r2,b2,b3,b4⟩|⟨b1,b2⟩
      ·refine .inl ⟨b1,r2,b2,b3,?_⟩;have:=P0 _ _ b2 q (by omega);unfold iC at b4 ⊢
       rw[List.map_cons,Int.toNat_natCast,this,←g4,b4]
      ·exact .inr ⟨b1,b2⟩
     ·rw[g2];exact .inr ⟨fun e=>g1 (Km (fun c k r e=>Mh f c k false r e) l c1 e2 e),rfl⟩
def EY (ns:List No)(pre:List Int):Bool:=match pre.getLast? with|some k=>jE ns k|none=>false
theorem aae {k:Int}(l:List Int):∀(pre:List Int),(∀y∈pre,y≠k)→(pre++k::l).findIdx? (fun y=>aB y k)=some pre.length
 |[],_=>by simp[mτ,aV]
 |y::pre,h=>by
  rw[List.cons_append,mτ,aV,lω (h y (lυ ..)),aae l pre fun z hz=>h z (lψ _ hz)];rfl
theorem ace {ns:List No}{k:Nat}(l pre:List Int)(h:∀y∈pre,y≠(k:Int)):Ym ns (pre++(k:Int)::l) k=EY ns pre:=by
 unfold Ym EY;rw[aae l pre h];rcases List.eq_nil_or_concat pre with rfl|⟨t,z,rfl⟩
 ·rfl
 ·rw[List.concat_eq_append]at*
  have e1:(t++[z]).length=t.length+1:=by simp
  have e2:((t++[z])++(k:Int)::l)[t.length]?=some z:=by simp
  have e3:(t++[z]).getLast?=some z:=by simp
  rw[e1,e3];simp only[e2]
theorem acf {ns:List No}{P:List Int}{k i:Nat}(hp:P.getD k 0=i)(ho:cK ns (i:Int)≠18):uh ns P k=false:=by
 unfold uh;simp only[hp];rw[if_neg (by omega),if_neg ho]
theorem Yn {ns:List No}{P:List Int}{k i:Nat}{x:No}(hp:P.getD k 0=i)(hx:ns[i]?=some x)(ho:x.op=18):uh ns P k=Ym ns x.kids k:=by
 unfold uh;simp only[hp];rw[if_neg (by omega),pS hx,if_pos ho];unfold RR;rw[eg,hx];rfl
theorem Tj {M:Me}{P:List Int}{f:Nat}(hv:afq M P f){b:Nat}{x:No}(hx:M.nodes[b]?=some x)(h18:x.op=18):∀(l pre:List Int) (lo hi:Nat),Ch M.nodes lo l hi→pre++l=x.kids→(∀y∈pre,y<(lo:Int))→∀(r:RS) (c:CS) (c':CS),r.m=M→r.par=P→Bf r→HD c r lo→sD (kg f) c l (EY M.nodes pre)=some c'→
  (c'.er=0∧∃r',gB (hi - lo) lo r=some r'∧HD c' r' hi)∨(c'.er≠0∧gB (hi - lo) lo r=none)
 |[],pre,lo,hi,h,hpre,hlt,r,c,c',hm,hp,hb,hc,hk=>by
  cases h;simp only[sD,lα]at hk;subst hk;rw[Nat.sub_self];exact .inl ⟨hc.er,r,rfl,hc⟩
 |_::l,pre,lo,hi,h,hpre,hlt,r,c,c',hm,hp,hb,hc,hk=>by
  cases h with
  | @cons _ q _ _ h1 h2=>
   have l1:=h1.le;have l2:=h2.le;obtain⟨y,hy⟩:=abm h1;have hqk:(q:Int)∈x.kids:=by rw[←hpre];simp
   have hpq:P.getD q 0=(b:Int):=by
    have:=hb.tr.p1 b x (by rw[hm];exact hx) q hqk;rw[hp]at this;exact this
   have hy18:y.op≠18:=by
    have:=(aax (hb.kv x (by rw[hm];exact mα hx)) hqk).1 h18;rw[hm,pS hy]at this;exact this
   have hd:EY M.nodes pre=uh M.nodes P q:=by
    rw[Yn hpq hx h18,←hpre,ace l pre (fun z hz e=>by have:=hlt z hz;omega)]
   simp only[sD]at hk;cases e1:kg f c (q:Int) (EY M.nodes pre)with
   |none=>rw[e1]at hk;cases hk
   |some r1=>
    obtain⟨k,c1⟩:=r1;rw[e1]at hk;simp only at hk;rw[show hi - lo=(q+1 - lo)+(hi - (q+1)) by omega,C5,show lo+(q+1 - lo)=q+1 by omega];rcases hv lo q h1 y hy r c _ k c1 hm hp hb hc (fun _=>hd) (fun e=>absurd e hy18) e1 with⟨g1,g0,r1,g2,g3,g4⟩|⟨g1,g2⟩
    ·rw[g2];obtain⟨m1,_,_,m4⟩:=IG _ _ _ _ g2;rw[g0 hy18,g3.ns,m1,hm,Bool.false_or]at hk;have hle:EY M.nodes (pre++[(q:Int)])=jE M.nodes q:=by unfold EY;simp
     rw[←hle]at hk;exact Tj hv hx h18 l (pre++[(q:Int)]) (q+1) hi h2 (by rw[←hpre];simp) (fun z hz=>by
      rcases mσ.1 hz with hz|hz
      ·have:=hlt z hz;omega
      ·simp at hz;omega) r1 c1 c' (m1.trans hm) (m4.trans hp) (FS _ _ hb g2) g3 hk
    ·rw[g2];exact .inr ⟨fun e=>g1 (Rn (fun c k d r e=>Mh f c k d r e) l c1 _ hk e),rfl⟩
theorem aij {r:RS}(h:Bf r){lo i:Nat}(hs:HE r.m.nodes lo i){x:No}(hx:r.m.nodes[i]?=some x)(h18:x.op=18)(s:List Nat):Ql r (i+1) s=Ql r lo s:=by
 unfold Ql;split
 ·rfl
 ·refine t5 _ _ _ fun j y hy o hn=>?_
  rw[Nat.zero_add];have hle:=hs.le;have hne:j≠i:=fun e=>by
   subst e;rw[hx]at hy;simp only[lα]at hy;subst hy;omega
  unfold sgt;by_cases h1:j<lo
  ·have:=h.tr.sub_out hs h1;rw[mδ h1,mδ (show j<i+1 by omega),Bool.true_and,Bool.true_and];exact decide_eq_decide.2 ⟨fun _=>by omega,fun _=>by omega⟩
  ·rw[lω h1,Bool.false_and];by_cases h2:j<i
   ·have:=h.tr.sub_in hs (by omega) h2;rw[lω (show ¬((i+1:Nat):Int)≤r.par.getD j 0 by omega),Bool.and_false]
   ·rw[lω (show ¬j<i+1 by omega),Bool.false_and]
theorem ah5 {c:CS}{r:RS}{i:Nat}{x:No}(h:Bf r)(hm:HD c r i)(hx:r.m.nodes[i]?=some x)(h18:x.op=18)(sc:List (List Nat×Vr))(hsc:∀s,cY sc s=Ql r (i+1) s)(k:Int):HD {c with sc:=sc} (r.put i k) (i+1) where
 er:=hm.er
 ns:=hm.ns
 pr:=hm.pr
 re:=hm.re
 fs:=hm.fs
 ki j:=by rw[ae7 h.ok.sl hx,if_neg (fun g=>by have:=g.1;omega)];exact hm.ki j
 va j:=by rw[Qa hx,if_neg (fun g=>by have:=g.1;omega)];exact hm.va j
 lo:=by show c.lo=r.m.params++iQ (r.m.nodes.take (i+1));rw[KO hx,if_neg (by omega),mε];exact hm.lo
 l8:=hm.l8
 le s:=by
  show cY c.le s=if((r.m.params.any fun f=>aO f.name s)||nA (r.m.nodes.take (i+1)) s)=true then some true else none
  rw[R2 hx,lω (by omega),Bool.false_and,Bool.or_false];exact hm.le s
 sc:=hsc
theorem Uz {r:RS}{i:Nat}{x:No}(hx:r.m.nodes[i]?=some x):gB 1 i r=(w7 r i (cw r i x)).map (r.put i):=by
 simp only[gB,uP,hx];cases(w7 r i (cw r i x)).map (r.put i)<;>rfl
theorem LA {r:RS}(h:Bf r){i:Nat}{x:No}(hx:r.m.nodes[i]?=some x)(k:Int):k=(r.put i k).ks.getD i 0:=by
 show k=(r.ks.set i k).getD i 0;have:=xK hx;rw[lρ,qγ (by rw[h.ok.sl];exact this)];rfl
theorem Mi {M:Me}{P:List Int}:∀f,afq M P f
 |0,lo,i,hs,x,hx,r,c,d,k,c',hm,hp,hb,hc,hd,ha,h=>by simp[kg]at h
 |f+1,lo,i,hs,x,hx,r,c,d,k,c',hm,hp,hb,hc,hd,ha,h=>by
  have hle:=hs.le;have hxr:r.m.nodes[i]?=some x:=by rw[hm];exact hx
  have hsr:HE r.m.nodes lo i:=by rw[hm];exact hs
  cases hs with
  | @mk _ _ x' hx' hch=>
   rw[hx]at hx';simp only[lα]at hx';subst hx';have hxc:eG c.ns (i:Int)=some x:=by rw[hc.ns,eg];exact hxr
   simp only[kg,hxc]at h;rw[show i+1 - lo=(i - lo)+1 by omega,C5,show lo+(i - lo)=i by omega];by_cases h18:x.op=18
   ·rw[if_pos h18]at h;unfold qK at h;cases e1:sD (kg f) c x.kids false with
    |none=>rw[e1]at h;cases h
    |some c1=>
     rw[e1]at h;simp only[lα,lε]at h;rcases Tj (Mi f) hx h18 x.kids [] lo i hch rfl (fun y hy=>by cases hy) r c c1 hm hp hb hc e1 with⟨g1,r1,g2,g3⟩|⟨g1,g2⟩
     ·rw[g2];obtain⟨m1,m2,m3,m4⟩:=IG _ _ _ _ g2;have hb1:=FS _ _ hb g2;have hx1:r1.m.nodes[i]?=some x:=by rw[m1];exact hxr
      have hsc:∀s,cY c.sc s=Ql r1 (i+1) s:=fun s=>by
       rw[aij hb1 (by rw[m1];exact hsr) hx1 h18,hc.sc];unfold Ql;rw[m1,m4]
      have hmb:=ah5 hb1 g3 hx1 h18 c.sc hsc 0;simp only;rw[Uz hx1,PF _ _ _ h18];have hno:∀o,w7 r1 i o=o:=fun o=>by unfold w7;rw[m1,hm,m4,hp,ha h18];rfl
      rw[hno];have hlen:c1.ns.length=r1.m.nodes.length:=by rw[g3.ns]
      have hi:=xK hx1;obtain⟨rfl,rfl⟩:=h;by_cases hroot:(i:Int)=(c1.ns.length:Int) - 1
      ·have hvv:(decide (c1.re=0)||jE c1.ns (i:Int))=(decide (r1.m.result=0)||jE r1.m.nodes (i:Int)):=by rw[g3.re,g3.ns]
       rw[if_pos hroot,hvv];by_cases hre:r1.m.result=0
       ·rw[mδ hre,Bool.true_or,if_neg (fun e=>e.2.1 hre)];exact .inl ⟨g1,fun e=>absurd h18 e,_,rfl,hmb,LA hb1 hx1 0⟩
       ·rw[lω hre,Bool.false_or];cases hen:jE r1.m.nodes (i:Int)with
        |true=>
         rw[if_neg (fun e=>by have:=e.2.2;cases this)];exact .inl ⟨g1,fun e=>absurd h18 e,_,rfl,hmb,LA hb1 hx1 0⟩
        |false=>
         rw[if_pos ⟨by omega,hre,rfl⟩];exact .inr ⟨fun e=>absurd (tF e) (by simp),rfl⟩
      ·rw[if_neg hroot,if_neg (fun e=>hroot (by have:=e.1;omega))];exact .inl ⟨g1,fun e=>absurd h18 e,_,rfl,hmb,LA hb1 hx1 0⟩
     ·rw[g2];refine .inr ⟨fun e=>g1 ?_,rfl⟩
      rw[←h.2]at e;split at e
      ·have:=kD e;exact this
      ·exact e
   ·rw[if_neg h18]at h;cases e1:hH (fun c k=>kg f c k false) c x.kids with
    |none=>rw[e1]at h;cases h
    |some r1=>
     obtain⟨kl,c1⟩:=r1;rw[e1]at h;simp only at h;have haf:∀k:Nat,(k:Int)∈x.kids→uh M.nodes P k=false:=fun k hk=>by
      have:=hb.tr.p1 i x hxr k hk;rw[hp]at this;exact acf this (by rw[pS hx];exact h18)
     rcases Ol (Mi f) x.kids lo i hch r c kl c1 hm hp hb hc haf e1 with⟨g1,r1,g2,g3,g4⟩|⟨g1,g2⟩
     ·rw[g2];obtain⟨m1,m2,m3,m4⟩:=IG _ _ _ _ g2;have hb1:=FS _ _ hb g2;have hx1:r1.m.nodes[i]?=some x:=by rw[m1];exact hxr
      rw[if_pos g1]at h;cases e2:opT c1 (i:Int) x kl with
      |none=>rw[e2]at h;cases h
      |some r2=>
       obtain⟨k2,c2⟩:=r2;rw[e2]at h;simp only[lα,lε]at h;obtain⟨rfl,rfl⟩:=h;subst g4;simp only;rw[Uz hx1];have hda:uh r1.m.nodes r1.par i=d:=by rw[m1,hm,m4,hp];exact(hd h18).symm
       rcases ahe hb1 g3 hx1 h18 e2 with⟨z1,z2⟩|⟨z1,z2⟩
       ·rw[z2];unfold w7;rw[hda];cases d with
        |true=>
         refine .inr ⟨fun e=>?_,rfl⟩
         rw[CW]at e;exact absurd (tF e) (by simp)
        |false=>
         have hmm:=ah6 hb1 g3 hx1 h18 (aiW e2 z1) (fun h8=>by
          rw[LC _ _ _ h8]at z2;split at z2
          ·assumption
          ·cases z2)
         exact .inl ⟨by rw[CW];exact z1,fun _=>rfl,_,rfl,hmm,LA hb1 hx1 k2⟩
       ·rw[z2,Nj];exact .inr ⟨fun e=>by rw[CW]at e;exact z1 (kD e),rfl⟩
     ·rw[g2];rw[if_neg g1]at h;simp only[lα,lε]at h;obtain⟨rfl,rfl⟩:=h;exact .inr ⟨g1,rfl⟩
end
end Go.Ab
end
section
namespace Go.Ab
open Go
noncomputable section
def B2 {α:Type}(nm:α→List Nat)(mk:α→Nat→Vr)(l:List α)(k:Nat)(s:List Nat):Option Vr:=match (l.take k).findIdx? fun f=>aO (nm f) s with
 |some j=>l[j]?.map fun f=>mk f j
 |none=>none
theorem fst_none {α:Type}{nm:α→List Nat}{mk:α→Nat→Vr}{l:List α}{k:Nat}{s:List Nat}:B2 nm mk l k s=none↔((l.take k).any fun f=>aO (nm f) s)=false:=by
 unfold B2;cases hf:(l.take k).findIdx? fun f=>aO (nm f) s with
 |none=>
  refine⟨fun _=>?_,fun _=>rfl⟩
  rw[qθ];intro x hx;rw[mχ.1 hf x hx];simp
 |some j=>
  obtain⟨h1,h2,_⟩:=lσ.1 hf;have h3:j<l.length:=by simp at h1;omega
  have h4:((l.take k).any fun f=>aO (nm f) s)=true:=qν.2 ⟨_,lι h1,h2⟩;simp only[lγ h3,Option.map_some,h4];exact⟨fun g=>(by cases g),fun g=>(by cases g)⟩
theorem aeY {α:Type}{nm:α→List Nat}{mk:α→Nat→Vr}{l:List α}{k:Nat}(hk:k<l.length)(h:((l.take k).any fun f=>aO (nm f) (nm l[k]))=false)(s:List Nat):B2 nm mk l (k+1) s=if s=nm l[k]then some (mk l[k] k)else B2 nm mk l k s:=by
 have htl:(l.take k).length=k:=by simp;omega
 unfold B2;rw[List.take_add_one,lγ hk,Option.toList_some,List.findIdx?_append,htl];by_cases e:s=nm l[k]
 ·subst e;rw[if_pos rfl];have:(l.take k).findIdx? (fun f=>aO (nm f) (nm l[k]))=none:=xw h;rw[this];simp[mτ,dB,lγ hk]
 ·rw[if_neg e];have:([l[k]].findIdx? fun f=>aO (nm f) s)=none:=by
   simp[mτ,dB];exact fun g=>e g.symm
  rw[this];simp
def NS {α:Type}(nm:α→List Nat)(l:List α)(i:Nat):Bool:=match l[i]? with
 |some x=>(l.take i).any fun f=>aO (nm f) (nm x)
 |none=>false
theorem TL (all:List Fe):∀(l:List Fe) (k:Nat) (acc:List (List Nat×Vr)),all.drop k=l→k≤all.length→(∀s,cY acc s=B2 Fe.name (fun f j=>⟨f.kind,j,true⟩) all k s)→
  (∃fs,xA acc l k=some fs∧(∀i,k≤i→NS Fe.name all i=false)∧∀s,cY fs s=B2 Fe.name (fun f j=>⟨f.kind,j,true⟩) all all.length s)∨(xA acc l k=none∧∃i,k≤i∧i<all.length∧NS Fe.name all i=true)
 |[],k,acc,hd,hk,ha=>by
  have hl:k=all.length:=by
   have:=congrArg List.length hd;simp at this;omega
  subst hl;exact .inl ⟨acc,rfl,fun i hi=>by unfold NS;rw[lζ hi],ha⟩
 |x::l,k,acc,hd,hk,ha=>by
  have hlt:k<all.length:=by
   rcases lπ k all.length with h1|h1
   ·exact h1
   ·rw[qβ h1]at hd;cases hd
  rw[lμ hlt]at hd;simp only[lν]at hd;obtain⟨rfl,hd⟩:=hd;have hdk:NS Fe.name all k=(all.take k).any fun f=>aO f.name all[k].name:=by unfold NS;rw[lγ hlt]
  simp only[xA];cases hg:cY acc all[k].name with
  |some w=>
   refine .inr ⟨rfl,k,Nat.le_refl _,hlt,?_⟩;rw[hdk];cases hb:(all.take k).any fun f=>aO f.name all[k].name with
   |true=>rfl
   |false=>
    rw[ha,fst_none.2 hb]at hg;cases hg
  |none=>
   rw[ha,fst_none]at hg;rcases TL all l (k+1) (nC acc all[k].name ⟨all[k].kind,k,true⟩) hd hlt (fun s=>by rw[nf,ha,aeY hlt hg])with⟨fs,g1,g2,g3⟩|⟨g1,i,g2,g3,g4⟩
   ·refine .inl ⟨fs,g1,fun i hi=>?_,g3⟩
    by_cases e:i=k
    ·subst e;rw[hdk];exact hg
    ·exact g2 i (by omega)
   ·exact .inr ⟨g1,i,by omega,g3,g4⟩
theorem HZ (a:Ac):uJ a=true↔∀i,i<a.fields.length→NS Fe.name a.fields i=false:=by
 unfold uJ;rw[mη];refine⟨fun h i hi=>?_,fun h i hi=>?_⟩
 ·have:=h i (by simpa using hi);unfold NS;rw[lγ hi]at this ⊢
  simpa using this
 ·have hi2:i<a.fields.length:=by simpa using hi
  have:=h i hi2;unfold NS at this;rw[lγ hi2]at this ⊢
  simp only at this ⊢
  rw[this];rfl
theorem TK (a:Ac):(∃fs,xA [] a.fields 0=some fs∧uJ a=true∧∀(r:RS),r.a=a→∀s,cY fs s=Wz r s)∨(xA [] a.fields 0=none∧uJ a=false):=by
 rcases TL a.fields a.fields 0 [] rfl (Nat.zero_le _) (fun s=>by simp[cY,B2])with⟨fs,g1,g2,g3⟩|⟨g1,i,g2,g3,g4⟩
 ·refine .inl ⟨fs,g1,(HZ a).2 fun i _=>g2 i (Nat.zero_le _),fun r hr s=>?_⟩
  rw[g3,←hr];unfold B2 Wz;rw[hr,List.take_length];all_goals (cases a.fields.findIdx? fun f=>aO f.name s<;>rfl)
 ·refine .inr ⟨g1,?_⟩;cases h:uJ a with
  |false=>rfl
  |true=>rw[(HZ a).1 h i g3]at g4;cases g4
structure PaI (c:CS)(r:RS)(k:Nat):Prop where
 er:c.er=0
 ns:c.ns=r.m.nodes
 pr:c.pr=r.p
 re:c.re=r.m.result
 fs:∀s,cY c.fs s=Wz r s
 ki:c.ki=[]
 va:c.va=[]
 lo:c.lo=r.m.params.take k
 le:∀s,cY c.le s=if((r.m.params.take k).any fun f=>aO f.name s)=true then some true else none
 sc:∀s,cY c.sc s=B2 Pa.name (fun f j=>⟨f.kind,j,false⟩) r.m.params k s
def Ha (r:RS)(i:Nat):Bool:=match r.m.params[i]? with
 |some x=>(r.a.fields.any fun f=>aO f.name x.name)||((r.m.params.take i).any fun f=>aO f.name x.name)
 |none=>false
theorem adH (r:RS)(s:List Nat):(Wz r s).isSome=r.a.fields.any fun f=>aO f.name s:=by
 unfold Wz;cases hf:r.a.fields.findIdx? fun f=>aO f.name s with
 |some j=>
  obtain⟨h1,h2,_⟩:=lσ.1 hf;have:(r.a.fields.any fun f=>aO f.name s)=true:=qν.2 ⟨_,lι h1,h2⟩;rw[this];simp only[lγ h1,Option.map_some,Option.isSome_some]
 |none=>
  have:(r.a.fields.any fun f=>aO f.name s)=false:=by
   rw[qθ];intro x hx;rw[mχ.1 hf x hx];simp
  rw[this];rfl
theorem Ui (r:RS)(hq:r.m.params.length<1000):∀(l:List Pa) (k:Nat) (c:CS),r.m.params.drop k=l→k≤r.m.params.length→PaI c r k→
  (∃c',ym c l=some (some c')∧(∀i,k≤i→Ha r i=false)∧PaI c' r r.m.params.length)∨(ym c l=some none∧∃i,k≤i∧i<r.m.params.length∧Ha r i=true)
 |[],k,c,hd,hk,hc=>by
  have hl:k=r.m.params.length:=by
   have:=congrArg List.length hd;simp at this;omega
  subst hl;exact .inl ⟨c,rfl,fun i hi=>by unfold Ha;rw[lζ hi],hc⟩
 |x::l,k,c,hd,hk,hc=>by
  have hlt:k<r.m.params.length:=by
   rcases lπ k r.m.params.length with h1|h1
   ·exact h1
   ·rw[qβ h1]at hd;cases hd
  rw[lμ hlt]at hd;simp only[lν]at hd;obtain⟨rfl,hd⟩:=hd;have hdk:Ha r k=((r.a.fields.any fun f=>aO f.name r.m.params[k].name)||((r.m.params.take k).any fun f=>aO f.name r.m.params[k].name)):=by unfold Ha;rw[lγ hlt]
  have hdup:z7 c r.m.params[k].name=Ha r k:=by
   rw[hdk];unfold z7;rw[hc.fs,hc.le,←adH];cases Wz r r.m.params[k].name with
   |some v=>rfl
   |none=>cases(r.m.params.take k).any fun f=>aO f.name r.m.params[k].name<;>rfl
  simp only[ym];rw[hdup];cases hb:Ha r k with
  |true=>rw[if_pos rfl];exact .inr ⟨rfl,k,Nat.le_refl _,hlt,hb⟩
  |false=>
   rw[if_neg (by decide)];rw[hdk,qκ]at hb;have hll:c.lo.length=k:=by rw[hc.lo];simp;omega
   unfold m5;rw[if_pos (by omega)];simp only;have hn:PaI {c with sc:=nC c.sc r.m.params[k].name ⟨r.m.params[k].kind,c.lo.length,false⟩,le:=nC c.le r.m.params[k].name true,lo:=c.lo++[⟨r.m.params[k].name,r.m.params[k].kind⟩]} r (k+1):=by
    refine⟨hc.er,hc.ns,hc.pr,hc.re,hc.fs,hc.ki,hc.va,?_,fun s=>?_,fun s=>?_⟩
    ·show c.lo++_=_;rw[List.take_add_one,lγ hlt,hc.lo];rfl
    ·show cY (nC c.le _ true) s=_;rw[nf,hc.le,List.take_add_one,lγ hlt,Option.toList_some,List.any_append];by_cases e:s=r.m.params[k].name
     ·subst e;simp[dB]
     ·rw[if_neg e];have:([r.m.params[k]].any fun f=>aO f.name s)=false:=by
       simp[dB];exact fun g=>e g.symm
      rw[this,Bool.or_false]
    ·show cY (nC c.sc _ _) s=_;rw[nf,hc.sc,aeY hlt hb.2,hll]
   rcases Ui r hq l (k+1) _ hd hlt hn with⟨c',g1,g2,g3⟩|⟨g1,i,g2,g3,g4⟩
   ·refine .inl ⟨c',g1,fun i hi=>?_,g3⟩
    by_cases e:i=k
    ·subst e;rw[hdk,hb.1,hb.2];rfl
    ·exact g2 i (by omega)
   ·exact .inr ⟨g1,i,by omega,g3,g4⟩
theorem Iq (r:RS):yl r.a r.m=true↔∀i,i<r.m.params.length→Ha r i=false:=by
 unfold yl;rw[mη];refine⟨fun h i hi=>?_,fun h i hi=>?_⟩
 ·have:=h i (by simpa using hi);unfold Ha;rw[lγ hi]at this ⊢
  simpa using this
 ·have hi2:i<r.m.params.length:=by simpa using hi
  have:=h i hi2;unfold Ha at this;rw[lγ hi2]at this ⊢
  simp only at this ⊢
  rw[this];rfl
theorem adN {c:CS}{r:RS}(h:PaI c r r.m.params.length)(hq:r.m.params.length≤8):HD c r 0 where
 er:=h.er
 ns:=h.ns
 pr:=h.pr
 re:=h.re
 fs:=h.fs
 ki i:=by
  rw[h.ki];show none=_;unfold kiM;cases ha:eG r.m.nodes i with
  |none=>rfl
  |some x=>
   obtain⟨j,rfl,_⟩:=ij ha;exact(if_neg (fun g=>by have:=g.1;omega)).symm
 va i:=by
  rw[h.va];show none=_;unfold vaM;cases ha:eG r.m.nodes i with
  |none=>rfl
  |some x=>
   obtain⟨j,rfl,_⟩:=ij ha;exact(if_neg (fun g=>by have:=g.1;omega)).symm
 lo:=by rw[h.lo,List.take_length];simp[iQ]
 l8:=by rw[h.lo,List.take_length];exact hq
 le s:=by rw[h.le,List.take_length];simp[nA]
 sc s:=by
  rw[h.sc];unfold B2 Ql;rw[List.take_length];cases r.m.params.findIdx? fun f=>aO f.name s with
  |some j=>rfl
  |none=>exact(EG (P:=sgt r.par 0) _ _ _ fun j _=>by unfold sgt;rw[lω (by omega)];rfl).symm
end
end Go.Ab
end
section
namespace Go.Ab
open Go
noncomputable section
theorem acs {p:List Ac}(hp:tU p)(hv:cN p=true){a:Ac}(ha:a∈p){m:Me}(hm:m∈a.methods):Bf (RS.ini p a m):=by
 have hb:=(q8 hv ha hm).1;have hb':=hb;unfold iM at hb';simp only[lδ,mη]at hb';obtain⟨_,h18,hall,_⟩:=hb';refine⟨aio hb,Kj hp hv ha hm,HK hb,fun x hx h5=>?_,?_⟩
 ·have:=(hall x hx).2;unfold dX gX at this;rw[h5]at this;simp only[aV,Int.reduceEq,decide_false,decide_true,cond_true,cond_false]at this;cases hbo:binO.any fun t=>aO x.name t with
  |true=>rfl
  |false=>rw[hbo]at this;cases this
 ·rw[aV]at h18;exact of_decide_eq_true h18
theorem HP {p:List Ac}(hp:tU p)(hv:cN p=true){a:Ac}(ha:a∈p){m:Me}(hm:m∈a.methods){fs:List (List Nat×Vr)}(hfs:∀s,cY fs s=Wz (RS.ini p a m) s){o:Option CS}(h:iw 1000 p fs m=some o):
  (∃c r',o=some c∧c.er=0∧yl a m=true∧gB m.nodes.length 0 (RS.ini p a m)=some r'∧HD c r' m.nodes.length)∨((∀c,o=some c→c.er≠0)∧(yl a m=true→gB m.nodes.length 0 (RS.ini p a m)=none)):=by
 have hbf:=acs hp hv ha hm;have hq:=((Gg hv).2 a ha m hm).2;have hpi:PaI (CS.init p fs m) (RS.ini p a m) 0:=⟨rfl,rfl,rfl,rfl,hfs,rfl,rfl,by simp[CS.init],fun s=>by simp[CS.init,cY],fun s=>by simp[CS.init,cY,B2]⟩
 unfold iw at h;rcases Ui (RS.ini p a m) (by show m.params.length<1000;omega) m.params 0 _ rfl (Nat.zero_le _) hpi with⟨c1,g1,g2,g3⟩|⟨g1,i,_,g3,g4⟩
 ·rw[g1]at h;simp only at h;have hpo:=(Iq (RS.ini p a m)).2 fun i _=>g2 i (Nat.zero_le _)
  have hmat:=adN g3 (by show m.params.length≤8;omega);obtain⟨k,hs,hk,hkp⟩:=hbf.tr.root;obtain⟨x,hx⟩:=abm hs;have he:((m.nodes.length:Int) - 1)=(k:Int):=by
   have:k+1=m.nodes.length:=hk;omega
  rw[he]at h;have hx18:x.op=18:=by
   have:=hbf.r18;rw[show(RS.ini p a m).m.nodes.length - 1=k by omega,pS hx]at this;exact this
  have hroot:uh m.nodes (qU m.nodes) k=false:=by
   unfold uh;have:(qU m.nodes).getD k 0= -1:=hkp;simp only[this];rfl
  have hk1:k+1 - 0=m.nodes.length:=hk;cases hvt:kg 1000 c1 (k:Int) false with
  |none=>rw[hvt]at h;cases h
  |some rr=>
   obtain⟨y,c2⟩:=rr;rw[hvt]at h;simp only[lα]at h;rcases Mi (M:=m) (P:=qU m.nodes) 1000 0 k hs x hx (RS.ini p a m) c1 false y c2 rfl rfl hbf hmat (fun e=>absurd hx18 e) (fun _=>hroot) hvt with⟨b1,_,r',b2,b3,_⟩|⟨b1,b2⟩
   ·rw[hk1]at b2;rw[show k+1=m.nodes.length from hk]at b3;exact .inl ⟨c2,r',h.symm,b1,hpo,b2,b3⟩
   ·rw[hk1]at b2;exact .inr ⟨fun c e=>by rw[←h]at e;simp only[lα]at e;rw[←e];exact b1,fun _=>b2⟩
 ·rw[g1]at h;simp only[lα]at h;refine .inr ⟨fun c e=>(by rw[←h]at e;cases e),fun e=>?_⟩
  have:=(Iq (RS.ini p a m)).1 e i g3;rw[this]at g4;cases g4
theorem Th {α:Type}(l:List α)(nm:α→List Nat)(s:List Nat):(l.any fun x=>decide (nm x=s))=l.any fun x=>aO (nm x) s:=by
 congr 1;funext x;rw[dB]
theorem T7 {p:List Ac}(hp:tU p)(hv:cN p=true){a:Ac}(ha:a∈p){fs:List (List Nat×Vr)}(hfs:∀m,∀s,cY fs s=Wz (RS.ini p a m) s){i:Nat}:∀(l:List Me) (j:Nat) (acc:List CS) {o:An ⊕ List CS},a.methods.drop j=l→j≤a.methods.length→qT 1000 p fs i a.methods l j acc=some o→
  (∃b,o= .inr b∧sC (fun k=>(qS p a k).isSome) l.length j=true)∨(∃e,o= .inl e∧e.er≠0∧sC (fun k=>(qS p a k).isSome) l.length j=false)
 |[],j,acc,o,hd,hj,h=>by
  simp only[qT,lα]at h;exact .inl ⟨acc,h.symm,rfl⟩
 |m::l,j,acc,o,hd,hj,h=>by
  have hlt:j<a.methods.length:=by
   rcases lπ j a.methods.length with h1|h1
   ·exact h1
   ·rw[qβ h1]at hd;cases hd
  rw[lμ hlt]at hd;simp only[lν]at hd;obtain⟨rfl,hd⟩:=hd;have hmm:a.methods[j]∈a.methods:=lι _;simp only[qT]at h;simp only[List.length_cons,sC];rw[Th]at h;have hmet:qS p a j=if((a.methods.take j).any fun f=>aO f.name a.methods[j].name)=true then none else if yl a a.methods[j]=true then(gB a.methods[j].nodes.length 0 (RS.ini p a a.methods[j])).map (·.ks)else none:=by unfold qS;rw[lγ hlt]
  by_cases hdup:((a.methods.take j).any fun f=>aO f.name a.methods[j].name)=true
  ·rw[if_pos hdup]at h hmet;simp only[lα]at h;refine .inr ⟨_,h.symm,(show(7:Int)≠0 by decide),?_⟩;rw[hmet];rfl
  ·rw[if_neg hdup]at h hmet;cases hc:iw 1000 p fs a.methods[j]with
   |none=>rw[hc]at h;cases h
   |some oc=>
    rw[hc]at h;rcases HP hp hv ha hmm (hfs _) hc with⟨c,r',g1,g2,g3,g4,_⟩|⟨g1,g2⟩
    ·subst g1;simp only at h;rw[if_pos g2]at h;rw[if_pos g3,g4]at hmet;rw[hmet];simp only[Option.map_some,Option.isSome_some,Bool.true_and];exact T7 hp hv ha hfs l (j+1) _ hd hlt h
    ·have hmn:qS p a j=none:=by
      rw[hmet];by_cases hpo:yl a a.methods[j]=true
      ·rw[if_pos hpo,g2 hpo];rfl
      ·rw[if_neg hpo]
     rw[hmn];cases oc with
     |none=>
      simp only[lα]at h;exact .inr ⟨_,h.symm,(show(7:Int)≠0 by decide),rfl⟩
     |some c=>
      simp only at h;rw[if_neg (g1 c rfl)]at h;simp only[lα]at h;exact .inr ⟨_,h.symm,g1 c rfl,rfl⟩
theorem Ww {p:List Ac}{t:Nat}(ht:t<p.length):decide (p.findIdx? (fun b=>aO b.name p[t].name)=some t)=!((p.take t).any fun x=>aO x.name p[t].name):=by
 cases hb:(p.take t).any fun x=>aO x.name p[t].name with
 |true=>
  rw[qν]at hb;obtain⟨x,hx,h1⟩:=hb;obtain⟨i,hi,rfl⟩:=qα hx;have hit:i<t:=by simp at hi;omega
  simp only[Bool.not_true,mγ];intro e;obtain⟨_,_,h3⟩:=lσ.1 e;rw[qη]at h1;exact h3 i hit h1
 |false=>
  simp only[Bool.not_false,lη];refine lσ.2 ⟨ht,by rw[dB];simp,fun j hj h=>?_⟩
  rw[qθ]at hb;have hjl:j<(p.take t).length:=by simp;omega
  refine hb _ (lι hjl) ?_;rw[qη];exact h
theorem UG {p:List Ac}(hp:tU p)(hv:cN p=true):∀(l:List Ac) (j:Nat) (acc:List (List CS)) {o:An},p.drop j=l→j≤p.length→tD 1000 p l j acc=some o→(o.er=0↔sC (SR p) l.length j=true)∧(o.er=0→∃bs,o= .good bs)
 |[],j,acc,o,hd,hj,h=>by
  simp only[tD,lα]at h;subst h;exact⟨⟨fun _=>rfl,fun _=>rfl⟩,fun _=>⟨_,rfl⟩⟩
 |a::l,j,acc,o,hd,hj,h=>by
  have hlt:j<p.length:=by
   rcases lπ j p.length with h1|h1
   ·exact h1
   ·rw[qβ h1]at hd;cases hd
  rw[lμ hlt]at hd;simp only[lν]at hd;obtain⟨rfl,hd⟩:=hd;have ha:p[j]∈p:=lι _;simp only[tD]at h;rw[Th]at h;simp only[List.length_cons,sC];have htr:SR p j=(!((p.take j).any fun x=>aO x.name p[j].name)&&(uJ p[j]&&sC (fun k=>(qS p p[j] k).isSome) p[j].methods.length 0)):=by
   unfold SR;rw[lγ hlt];simp only;rw[Ww hlt]
  rw[htr];have bad:∀(o:An),o.er≠0→(o.er=0↔false=true)∧(o.er=0→∃bs,o= .good bs):=fun o ho=>⟨⟨fun e=>absurd e ho,fun e=>by cases e⟩,fun e=>absurd e ho⟩
  cases hdup:(p.take j).any fun x=>aO x.name p[j].name with
  |true=>
   rw[hdup,if_pos rfl]at h;simp only[lα]at h;subst h;exact bad _ (show(7:Int)≠0 by decide)
  |false=>
   rw[hdup,if_neg (by decide)]at h;rcases TK p[j]with⟨fs,g1,g2,g3⟩|⟨g1,g2⟩
   ·rw[g1]at h;simp only at h;rw[g2];cases hm:qT 1000 p fs j p[j].methods p[j].methods 0 []with
    |none=>rw[hm]at h;cases h
    |some om=>
     rw[hm]at h;rcases T7 hp hv ha (fun m s=>g3 (RS.ini p p[j] m) rfl s) p[j].methods 0 [] rfl (Nat.zero_le _) hm with⟨b,e1,e2⟩|⟨e,e1,e2,e3⟩
     ·subst e1;rw[e2];exact UG hp hv l (j+1) _ hd hlt h
     ·subst e1;simp only[lα]at h;subst h;rw[e3];exact bad _ e2
   ·rw[g1]at h;simp only[lα]at h;subst h;rw[g2];exact bad _ (show(7:Int)≠0 by decide)
theorem Yq {p:List Ac}(hp:tU p):((Gj p).er=0↔oS p=true)∧((Gj p).er=0→∃bs,Gj p= .good bs):=by
 unfold Gj oS;cases hv:cN p with
 |false=>exact⟨⟨fun e=>(by cases e),fun e=>(by cases e)⟩,fun e=>(by cases e)⟩
 |true=>
  obtain⟨o,ho⟩:=IJ hp hv;rw[ho];have:=UG hp hv p 0 [] rfl (Nat.zero_le _) ho;exact this
theorem aik {p:List Ac}(hp:tU p)(t m:List Nat):Uw p t m=sgR p t m:=by
 unfold Uw sgR;have:=(Yq hp).1;cases hc:oS p with
 |true=>rw[if_pos (this.2 hc)];rfl
 |false=>rw[if_neg (fun e=>by rw[this.1 e]at hc;cases hc)];rfl
theorem Fd {p:List Ac}(hp:tU p)(t m:Int):(ow p t m=none∧Qk p t m=none)∨∃(c:CS) (r':RS) (a:Ac) (x:Me),ow p t m=some c∧Qk p t m=some (a,x)∧qS p a m.toNat=some r'.ks∧r'.p=p∧r'.a=a∧r'.m=x∧r'.par=qU x.nodes∧HD c r' x.nodes.length:=by
 obtain⟨q1,q2⟩:=Yq hp;unfold ow Qk;cases hc:oS p with
 |false=>
  left;cases ha:Gj p with
  |bad=>exact⟨rfl,rfl⟩
  |good bs=>rw[q1.1 (by rw[ha];rfl)]at hc;cases hc
 |true=>
  obtain⟨bs,hbs⟩:=q2 (q1.2 hc);rw[hbs];obtain⟨hv,ht⟩:=Tf hbs;obtain⟨l',g1,g2,g3⟩:=Ge p 0 [] bs ht;simp only[List.nil_append]at g1;subst g1;simp only[cond_true];unfold iu;cases hl:eG bs t with
  |none=>
   left;have:eG p t=none:=by
    unfold eG at hl ⊢
    split at hl
    ·rename_i h0;rw[if_pos h0];rw[List.getElem?_eq_none_iff]at hl ⊢
     omega
    ·rename_i h0;rw[if_neg h0]
   rw[this];exact⟨rfl,rfl⟩
  |some l=>
   obtain⟨tn,rfl,hl2⟩:=ij hl;obtain⟨a,fs,ha,hf,hlen,hcs⟩:=g3 tn l hl2;rw[eg p,ha];simp only;cases hm:eG l m with
   |none=>
    left;have:eG a.methods m=none:=by
     unfold eG at hm ⊢
     split at hm
     ·rename_i h0;rw[if_pos h0];rw[List.getElem?_eq_none_iff]at hm ⊢
      omega
     ·rename_i h0;rw[if_neg h0]
    rw[this];exact⟨rfl,rfl⟩
   |some c=>
    right;obtain⟨mn,rfl,hm2⟩:=ij hm;obtain⟨x,hx,hck,h0⟩:=hcs mn c hm2;rw[eg a.methods,hx];have hap:=mα ha;have hxm:=mα hx;have hfs:∀s,cY fs s=Wz (RS.ini p a x) s:=by
     rcases TK a with⟨fs',e1,_,e3⟩|⟨e1,_⟩
     ·rw[e1]at hf;simp only[lα]at hf;subst hf;exact fun s=>e3 (RS.ini p a x) rfl s
     ·rw[e1]at hf;cases hf
    obtain⟨ks,hks⟩:=Ig hc ha (show mn<a.methods.length from(List.getElem?_eq_some_iff.1 hx).1);rcases HP hp hv hap hxm hfs hck with⟨c',r',b1,b2,b3,b4,b5⟩|⟨b1,_⟩
    ·simp only[lα]at b1;subst b1;obtain⟨m1,m2,m3,m4⟩:=IG _ _ _ _ b4;refine⟨c,r',a,x,rfl,rfl,?_,m2,m3,m1,m4,b5⟩;rw[Int.toNat_natCast,hks];unfold qS at hks;rw[hx]at hks;by_cases hd:((a.methods.take mn).any fun f=>aO f.name x.name)=true
     ·simp only[if_pos hd]at hks;cases hks
     ·simp only[if_neg hd,if_pos b3,b4,Option.map_some]at hks;exact hks.symm
    ·exact absurd h0 (b1 c rfl)
theorem ahZ {p:List Ac}(hp:tU p)(x:aK):aaw (ow p x.Type_ x.Method) x.Node=adS p x:=by
 unfold adS;rcases Fd hp x.Type_ x.Method with⟨h1,h2⟩|⟨c,r',a,m,h1,h2,h3,_,h5,h6,h7,h8⟩
 ·rw[h1,h2];rfl
 ·rw[h1,h2];show lG c.ki x.Node=_;rw[h8.ki];unfold kiM;simp only[h3,h6,Option.bind_some];cases ha:eG m.nodes x.Node with
  |none=>rfl
  |some y=>
   obtain⟨j,hj,hy⟩:=ij ha;have:=xK hy;simp only;by_cases h7:y.op≤7
   ·rw[if_pos h7,if_pos ⟨by omega,h7⟩]
   ·rw[if_neg h7,if_neg (fun e=>h7 e.2)]
theorem aiq {p:List Ac}(hp:tU p)(x:aK):abw (ow p x.Type_ x.Method) x.Node=aep p x:=by
 unfold aep;rcases Fd hp x.Type_ x.Method with⟨h1,h2⟩|⟨c,r',a,m,h1,h2,h3,_,h5,h6,h7,h8⟩
 ·rw[h1,h2];rfl
 ·rw[h1,h2];show lG c.va x.Node=_;rw[h8.va];unfold vaM;simp only[h5,h6,h7];cases ha:eG m.nodes x.Node with
  |none=>rfl
  |some y=>
   obtain⟨j,hj,hy⟩:=ij ha;have:=xK hy;simp only;by_cases h7:y.op=2∨y.op=8∨y.op=9
   ·rw[if_pos h7,if_pos ⟨by omega,h7⟩]
   ·rw[if_neg h7,if_neg (fun e=>h7 e.2)]
theorem ae9 {p:List Ac}(hp:tU p)(t m:Int):OI (ow p t m)=aaI p t m:=by
 unfold aaI;rcases Fd hp t m with⟨h1,h2⟩|⟨c,r',a,x,h1,h2,h3,_,h5,h6,h7,h8⟩
 ·rw[h1,h2];rfl
 ·rw[h1,h2];show c.lo=_;rw[h8.lo,h6,List.take_length]
end
end Go.Ab
end
section
namespace Go.Ab
open Go
set_option maxRecDepth 100000
noncomputable section
theorem Ir {m:Nat}(l:List Pa)(hl:l.length<10000)(k0:R)(k1:kF→R):∀(e q j:Nat),j+e=l.length→e<q→nQ (bv lay0.tab m) m k0 k1 q (l.map Pa.e,l.map Pa.e,(j:Int))=k1 (l.map Pa.e,l.map Pa.e,(l.length:Int))
 |0,q+1,j,h,_=>by
  obtain rfl:j=l.length:=by omega
  rw[wI];simp only[kR,lβ,bY,aS]
 |e+1,q+1,j,h,hq=>by
  have hj:j<l.length:=by omega
  rw[wI];simp only[kR,lβ,cT (show((j:Int)<(l.length:Int)) by omega),aP,aE,aH,aG hj,be,ZH,dB,aV,decide_true,wS (show j<cb by unfold cb;omega)];exact Ir l hl k0 k1 e q (j+1) (by omega) (by omega)
theorem UQ {n:Nat}(l:List Pa)(hl:l.length<10000)(hn:10000≤n):evFn lay0.tab (n+1) 26 [.p (.slice 2 (l.map Pa.e)),.p (.slice 2 (l.map Pa.e))] []=some (.p (.bool true),[]):=by
 apply Vq n (l.map Pa.e) (l.map Pa.e);simp only[zi,aV,decide_true,Bool.not_true,aS];exact Ir (m:=n) l hl _ _ l.length n 0 (by omega) (by omega)
theorem abi:∀(l:List Me) (t t':Int),Ux l t=some t'→∀m∈l,m.name.length≤100∧m.nodes.all Xi=true
 |[],_,_,_,m,hm=>by cases hm
 |x::r,t,t',h,m,hm=>by
  simp only[Ux]at h;cases h1:aU 400 (aj .i64 (t+ct x.nodes))with
  |true=>rw[h1]at h;cases h
  |false=>
   cases h2:aU 20 (ct x.params)with
   |true=>rw[h1,h2]at h;cases h
   |false=>
    cases h3:aU 100 (ct x.name)with
    |true=>rw[h1,h2,h3]at h;cases h
    |false=>
     cases h4:x.nodes.all Xi with
     |false=>rw[h1,h2,h3,h4]at h;cases h
     |true=>
      rw[h1,h2,h3,h4]at h;rcases mζ.1 hm with rfl|hm
      ·refine⟨?_,h4⟩;unfold ct at h3;rw[iR,mγ]at h3;omega
      ·exact abi r _ _ h m hm
theorem abj {n:Nat}{p:List Ac}(h:wj p=true)(hb:∀a∈p,Vl n a):∀a∈p,QV 9223372036854775808 a:=by
 unfold wj at h;rw[lδ]at h;obtain⟨t,ht⟩:=Option.isSome_iff_exists.1 h.2;have key:∀(l:List Ac) (t t':Int),smP l t=some t'→∀a∈l,smA a=true∧∃t t',Ux a.methods t=some t':=by
  intro l;induction l with
  |nil=>intro t t' _ a ha;cases ha
  |cons x r ih=>
   intro t t' h a ha;simp only[smP]at h;cases hx:smA x with
   |false=>rw[hx]at h;cases h
   |true=>
    rw[hx]at h;simp only[cond_true]at h;cases hs:Ux x.methods t with
    |none=>rw[hs]at h;cases h
    |some t1=>
     rw[hs]at h;rcases mζ.1 ha with rfl|ha
     ·exact⟨hx,_,_,hs⟩
     ·exact ih _ _ h a ha
 intro a ha;obtain⟨h1,t1,t2,h2⟩:=key p 0 t ht a ha;unfold smA ct at h1;simp only[lδ,Bool.not_eq_true',iR,mγ,mη]at h1;obtain⟨_,_,g1,g2⟩:=h1;refine⟨by omega,fun f hf=>?_,fun m hm=>?_⟩
 ·have:=g2 f hf;unfold smF ct at this;simp only[lδ,Bool.not_eq_true',iR,mγ]at this;omega
 ·obtain⟨w1,w2⟩:=abi _ _ _ h2 m hm;refine⟨by omega,fun q hq=>by have:=(hb a ha).pn m hm q hq;omega,fun y hy=>?_⟩
  have:=mη.1 w2 y hy;unfold Xi q0 ct at this;simp only[lδ,Bool.not_eq_true',iR,bJ,mγ,lη]at this;exact⟨by omega,by omega⟩
theorem ahI (l:LD)(i:Int)(K:dA→R):dT (.agg [.slice 1 l,.int .i64 i]) K=K ⟨l,i⟩:=rfl
theorem Qs {n:Nat}(p:List Ac)(x:aK)(s t:List Nat)(hl:p.length<n+6001)(hb:∀a∈p,Vl (n+6001) a)(hn:9223372036854775808≤n)(hm:n+2996≤200000000000000000000):evFn lay0.tab (n+6005) 6 [pD p,.p x.e,.p (.str s),.p (.str t)] []=some (.p (.bool true),[]):=by
 apply Q1 (n+6004) ⟨p.map Ac.e⟩ x s t;have h1:=aa (abC (n:=n+6003));have h2:=aa (abB (n:=n+6002) p (by omega) fun a ha=>(hb a ha).le (by omega));unfold vl;simp only[h1,ba,aC,aA,Bool.not_true,aS];rw[show((D.p (ab.e ⟨p.map Ac.e⟩)))=pD p from rfl];simp only[h2,ba,aC,aA];cases hs:wj p with
 |false=>rfl
 |true=>
  have hz:=abk hs hb;have hst:∀a∈p,QV (n+2996) a:=fun a ha=>(abj hs hb a ha).mono (by omega)
  simp only[Bool.not_true,aS];cases aU 100 (s.length:Int)
  ·cases aU 100 (t.length:Int)
   ·have k1:=aa (abL (n:=n+1) p hz x);have k2:=aa (UU (n:=n+2996) p hz hst hm x);have k3:=aa (U9 (n:=n) p hz s t);have k4:=aa (Mr (n:=n+2996) p hz hst hm s t);have k5:=aa (abM (n:=n+1) p hz x);have k6:=aa (UV (n:=n+2996) p hz hst hm x);have k7:=aa (U8 (n:=n+1) p hz x.Type_ x.Method);have k8:=aa (Mq (n:=n+2996) p hz hst hm x.Type_ x.Method);have k9:=aa (UQ (n:=n+6003) (aaI p x.Type_ x.Method) (by rw[←ae9 hz];exact OJ hz _ _) (by omega));have hps:(((sgR p s t).map fun m=>m.params.map (·.kind)).getD []).length<1000:=by
     cases ho:sgR p s t with
     |none=>simp
     |some m=>
      unfold sgR at ho;cases hc:oS p with
      |false=>rw[hc]at ho;cases ho
      |true=>
       rw[hc]at ho;obtain⟨a,ha,hx⟩:=Ib ho;have:=((hz.ac a ha).mm m hx).ps;simpa using this
    have k10:=aa (abI (n:=n+5002) _ (((sgR p s t).map fun m=>m.params.map (·.kind)).getD []) hps);rw[ahZ hz]at k1;rw[aik hz]at k3;rw[aiq hz]at k5;rw[ae9 hz]at k7;simp only[decide_true]at k10;simp only[aS,k1,k2,k3,k4,k5,k6,kiD,abb,vaD,bt,cg,ba,bz,aC,aA,ahI,aV,decide_true,beq_self_eq_true,aP,k10,k7,k8,mW,k9]
   ·rfl
  ·rfl
end
end Go.Ab
end
section
namespace Go.Ab
open Go
set_option maxRecDepth 100000
noncomputable section
theorem run_TypesTells:∀xs,Pw (lL prog0 (cp prog0 Bn 12)) [24,47,9,9] xs→∃N,evFn lay0.tab N 6 (xs.map .p) []=some (.p (.bool true),[]):=by
 intro xs h;obtain⟨x1,r1,rfl,h1,h⟩:=h.cons_inv;obtain⟨x2,r2,rfl,h2,h⟩:=h.cons_inv;obtain⟨x3,r3,rfl,h3,h⟩:=h.cons_inv;obtain⟨x4,r4,rfl,h4,h⟩:=h.cons_inv;obtain rfl:=h.nil_inv;obtain⟨p,hp,hl,hb⟩:=agq (n:=2) h1;obtain⟨x,rfl⟩:=adb (n:=10) h2;obtain⟨s,rfl⟩:=aeU (n:=11) h3;obtain⟨t,rfl⟩:=aeU (n:=11) h4;refine⟨9223372036854775808+6005,?_⟩;show evFn _ _ _ [.p x1,.p x.e,.p (.str s),.p (.str t)] []=_;rw[hp];exact Qs (n:=9223372036854775808) p x s t (by omega) (fun a ha=>(hb a ha).le (by omega)) (by omega) (by omega)
end
end Go.Ab
end
