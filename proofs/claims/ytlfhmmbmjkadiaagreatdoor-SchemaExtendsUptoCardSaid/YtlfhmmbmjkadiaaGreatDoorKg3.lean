import Derived.Test.YtlfhmmbmjkadiaaGreatDoorKg2
import Derived.Test.YtlfhmmbmjkadiaaGreatDoorKg0
import Derived.Test.YtlfhmmbmjkadiaaGreatDoorOg3
set_option linter.all false
section
namespace Go.Ab
open Go
noncomputable section
theorem Lh {c c2:CS}{r:RS}{i:Nat}{x:No}(h:Bf r)(hm:JR c r i)(hx:r.m.nodes[i]?=some x)(h18:x.op≠18)(k:Int)(e1:c2.er=0)(hst:fd c c2)(eki:c2.ki=c.ki)
  (hva:∀j,sW c2.va j=vaM (r.put i k) (i+1) j) (hlo:c2.lo=r.m.params++uZ (r.m.nodes.take (i+1))) (hl8:c2.lo.length≤8)
  (hle:∀s,c8 c2.le s=if((r.m.params.any fun f=>aN f.name s)||nI (r.m.nodes.take (i+1)) s)=true then some true else none) (hsc:∀s,c8 c2.sc s=QF r (i+1) s):JR (iT c2 i x k) (r.put i k) (i+1):=by
 obtain⟨n1,n2,n3,n4⟩:=WO c2 i x k;have hs2:=hst.trans (IG c2 i x k);refine⟨by rw[Di];exact e1,hs2.ns.trans hm.ns,hs2.pr.trans hm.pr,hs2.re.trans hm.re,fun s=>by rw[hs2.fs];exact hm.fs s,fun j=>?_,fun j=>by rw[n1];exact hva j,by rw[n3];exact hlo,by rw[n3];exact hl8,fun s=>?_,fun s=>by rw[n2];exact hsc s⟩
 ·rw[adu,eki,aeY h.ok.sl hx,hm.ki]
 ·have:(iT c2 i x k).le=c2.le:=by unfold iT;split<;>rfl
  rw[this];exact hle s
theorem letR_t {r:RS}{i:Nat}{x:No}{kk:List Int}:Sj r i x kk=true↔(nI (r.m.nodes.take i) x.name=false∧(r.a.fields.any fun f=>aN f.name x.name)=false∧(r.m.params.any fun f=>aN f.name x.name)=false∧nJ (r.m.nodes.take i)+1+r.m.params.length≤8∧kk.headD 0=x.v.k):=by
 unfold Sj;simp only[lδ,Bool.not_eq_true',lη]
theorem air {c c2:CS}{r:RS}{i:Nat}{x:No}{kl:List Int}{k:Int}(h:Bf r)(hm:JR c r i)(hx:r.m.nodes[i]?=some x)(h18:x.op≠18)(ho:OpR c i x kl k c2)(hlet:x.op=8→Sj r i x kl=true):JR (iT c2 i x k) (r.put i k) (i+1):=by
 have va0:(x.op≠2∧x.op≠8∧x.op≠9)→∀j,sW c.va j=vaM (r.put i k) (i+1) j:=fun g j=>by
  rw[Qt hx,if_neg (fun e=>by rcases e.1 with e|e|e;exact g.1 e;exact g.2.1 e;exact g.2.2 e),hm.va]
 have lo0:x.op≠8→c.lo=r.m.params++uZ (r.m.nodes.take (i+1)):=fun g=>by rw[La hx,if_neg g,mε];exact hm.lo
 have le0:x.op≠8→∀s,c8 c.le s=if((r.m.params.any fun f=>aN f.name s)||nI (r.m.nodes.take (i+1)) s)=true then some true else none:=fun g s=>by
  rw[Si hx,mβ g,Bool.false_and,Bool.or_false];exact hm.le s
 have sc0:x.op≠8→∀s,c8 c.sc s=QF r (i+1) s:=fun g s=>by rw[ae5 h hx h18 (fun e=>absurd e g)];exact hm.sc s
 cases ho with
 |same h2 h8 h9=>exact Lh h hm hx h18 k hm.er (fd.refl _) rfl (va0 ⟨h2,h8,h9⟩) (lo0 h8) hm.l8 (le0 h8) (sc0 h8)
 | @var v h2 hf=>
  have h8:x.op≠8:=by omega
  rw[E5 h hm hx h18 h8]at hf;refine Lh (c2:={c with va:=tv c.va i v}) h hm hx h18 v.kind hm.er ⟨rfl,rfl,rfl,rfl⟩ rfl (fun j=>?_) (lo0 h8) hm.l8 (le0 h8) (sc0 h8);show sW (tv c.va i v) j=_;rw[xP,Qt hx,hm.va,hf];by_cases e:j=(i:Int)
  ·rw[if_pos e,if_pos ⟨.inl h2,e⟩]
  ·rw[if_neg e,if_neg (fun g=>e g.2)]
 | @asg v rr h9 hks hf=>
  have h8:x.op≠8:=by omega
  rw[E5 h hm hx h18 h8]at hf;refine Lh (c2:={c with va:=tv c.va i v}) h hm hx h18 0 hm.er ⟨rfl,rfl,rfl,rfl⟩ rfl (fun j=>?_) (lo0 h8) hm.l8 (le0 h8) (sc0 h8);show sW (tv c.va i v) j=_;rw[xP,Qt hx,hm.va,hf];by_cases e:j=(i:Int)
  ·rw[if_pos e,if_pos ⟨.inr (.inr h9),e⟩]
  ·rw[if_neg e,if_neg (fun g=>e g.2)]
 | @lett y rr h8 hks=>
  obtain⟨g1,g2,g3,g4,g5⟩:=letR_t.1 (hlet h8);rw[hks]at g5;simp only[List.headD_cons]at g5;subst g5;obtain⟨v1,v2⟩:=agL h hx h8 g1 g3 g2;have hlen:(c.lo.length:Int)=((r.m.params.length+nJ (r.m.nodes.take i):Nat):Int):=by rw[hm.lo,mπ,Iw]
  have hl2:c.lo.length=r.m.params.length+nJ (r.m.nodes.take i):=by omega
  rw[←hlen]at v1 v2;refine Lh (c2:={c with sc:=nK c.sc x.name ⟨x.v.k,c.lo.length,false⟩,le:=nK c.le x.name true,lo:=c.lo++[⟨x.name,x.v.k⟩],va:=tv c.va i ⟨x.v.k,c.lo.length,false⟩}) h hm hx h18 0 hm.er ⟨rfl,rfl,rfl,rfl⟩ rfl (fun j=>?_) ?_ ?_ (fun s=>?_) (fun s=>?_)
  ·show sW (tv c.va i _) j=_;rw[xP,Qt hx,hm.va,v1];by_cases e:j=(i:Int)
   ·rw[if_pos e,if_pos ⟨.inr (.inl h8),e⟩]
   ·rw[if_neg e,if_neg (fun g=>e g.2)]
  ·show c.lo++_=_;rw[La hx,if_pos h8,hm.lo,mκ]
  ·show(c.lo++[(⟨x.name,x.v.k⟩:Pa)]).length≤8;simp only[mπ,List.length_singleton];omega
  ·show c8 (nK c.le x.name true) s=_;rw[nq,Si hx,hm.le,mη h8,Bool.true_and,de];by_cases e:s=x.name
   ·subst e;simp
   ·rw[if_neg e,mβ (fun g=>e g.symm),Bool.or_false]
  ·show c8 (nK c.sc x.name _) s=_;rw[nq];by_cases e:s=x.name
   ·subst e;rw[if_pos rfl,v2]
   ·rw[if_neg e,hm.sc,ae5 h hx h18 (fun _ g=>e g.symm)]
def NR (c:CS)(k:Int)(o:Option Int):Prop:=(c.er=0∧o=some k)∨(c.er≠0∧o=none)
theorem jV {c:CS}{i k:Int}{b:Bool}{o:Option Int}(hc:c.er=0)(ht:b=true→o=some k)(hf:b=false→o=none):NR (cj c i b) k o:=by
 cases b with
 |true=>exact .inl ⟨hc,ht rfl⟩
 |false=>exact .inr ⟨fun e=>absurd (tN e) (by simp),hf rfl⟩
theorem afB (s:List Nat)(x y:Int)(h:(EH s x y).2=true):¬(EH s x y).1<0:=by
 unfold EH at h ⊢
 simp only[Bool.cond_eq_ite]at h ⊢
 repeat' split
 all_goals first
  |(simp;done)
  |(simp_all [aW];omega)
theorem af8 {c:CS}{r:RS}{i:Nat}(hm:JR c r i)(s:List Nat):Ap c s=((r.a.fields.any fun f=>aN f.name s)||((r.m.params.any fun f=>aN f.name s)||nI (r.m.nodes.take i) s)):=by
 unfold Ap;rw[hm.fs,hm.le];unfold Xn;cases hf:r.a.fields.findIdx? fun f=>aN f.name s with
 |some j=>
  have hj:=lτ.1 hf;obtain⟨h1,h2,_⟩:=hj;have:(r.a.fields.any fun f=>aN f.name s)=true:=qν.2 ⟨_,lι h1,h2⟩;rw[this];simp only[lγ h1,Option.map_some,Bool.true_or]
 |none=>
  have:(r.a.fields.any fun f=>aN f.name s)=false:=by
   rw[qθ];intro x hx;have:=mω.1 hf x hx;simp[this]
  rw[this,Bool.false_or];cases(r.m.params.any fun f=>aN f.name s)||nI (r.m.nodes.take i) s<;>rfl
theorem agW {c c2:CS}{r:RS}{i:Nat}{x:No}{y:Int}{t:List Int}(hm:JR c r i)(h8:x.op=8)(ho:yh c i x y=some c2):NR c2 0 (cp r i x)∨iG r.ks x.kids≠y::t:=by
 by_cases hk:iG r.ks x.kids=y::t
 ·left;rw[LW r i x h8,hk];have hlo:c.lo.length=r.m.params.length+nJ (r.m.nodes.take i):=by rw[hm.lo,mπ,Iw]
  have hd:=af8 hm x.name;by_cases hl:Sj r i x (y::t)=true
  ·rw[if_pos hl];obtain⟨g1,g2,g3,g4,g5⟩:=letR_t.1 hl;simp only[List.headD_cons]at g5;rw[g1,g2,g3]at hd;refine .inl ⟨?_,rfl⟩;unfold yh at ho;have e1:qS c i x=c:=by unfold qS;rw[if_neg (by rw[hd];decide),if_neg (by omega)]
   rw[e1,mη g5]at ho;have e2:cj c i true=c:=rfl;rw[e2]at ho;unfold nf at ho;rw[if_pos (by omega)]at ho;simp only[lα]at ho;subst ho;unfold my pJ;have hfs:c8 c.fs x.name=none:=by
    rw[hm.fs];unfold Xn;rw[xL g2]
   simp only[hfs,nq,if_true];exact hm.er
  ·rw[if_neg hl];refine .inr ⟨fun h0=>hl ?_,rfl⟩
   unfold yh at ho;cases hdc:nf (cj (qS c i x) i (decide (y=x.v.k))) x.name x.v.k with
   |none=>rw[hdc]at ho;cases ho
   |some c3=>
    rw[hdc]at ho;simp only[lα]at ho;subst ho;have e2:=S5 h0;rw[Ki hdc]at e2;have hy:=tN e2;simp only[lη]at hy;have e3:=kQ e2;unfold qS at e3;split at e3
    ·exact absurd e3 (kK (by decide))
    ·rename_i hnd;split at e3
     ·exact absurd e3 (kK (by decide))
     ·rename_i h8';rw[hd]at hnd;simp only[Bool.not_eq_true,qδ]at hnd;have:=hm.l8;exact letR_t.2 ⟨hnd.2.2,hnd.1,hnd.2.1,by omega,by simpa using hy⟩
 ·exact .inr hk
theorem agX {c:CS}{r:RS}{i:Nat}{x:No}(h:Bf r)(hm:JR c r i)(hx:r.m.nodes[i]?=some x)(h18:x.op≠18)(h8:x.op≠8):(∃v,tw r.a r.m r.par i x.name=some v∧my c i x.name=(v,{c with va:=tv c.va i v}))∨(tw r.a r.m r.par i x.name=none∧(my c i x.name).2.er≠0):=by
 have hf:=E5 h hm hx h18 h8 x.name;unfold my;rw[hf];cases tw r.a r.m r.par i x.name with
 |some v=>exact .inl ⟨v,rfl,rfl⟩
 |none=>exact .inr ⟨rfl,kK (by decide)⟩
theorem agH (ks l:List Int):(iG ks l).length=l.length:=by unfold iG;simp
theorem ag3 {c c2:CS}{r:RS}{i:Nat}{x:No}{k:Int}(h:Bf r)(hm:JR c r i)(hx:r.m.nodes[i]?=some x)(h18:x.op≠18)(ho:opT c i x (iG r.ks x.kids)=some (k,c2)):NR c2 k (cp r i x):=by
 have hkv:=h.kv _ (mι hx);have rg:=aaF hkv;obtain⟨a1,a2,a3,a4,a5⟩:=aeA hkv;have hop:x.op=1∨x.op=2∨x.op=3∨x.op=4∨x.op=5∨x.op=6∨x.op=7∨x.op=8∨x.op=9∨x.op=10∨x.op=11∨x.op=12∨x.op=13∨x.op=14∨x.op=15∨x.op=16∨x.op=17:=by omega
 have hl:=agH r.ks x.kids;have huse:=agX h hm hx h18;rcases hop with o|o|o|o|o|o|o|o|o|o|o|o|o|o|o|o|o<;>(simp only[opT,E0,yP,o,Int.reduceEq,Int.reduceLE,if_true,if_false,or_true,true_or,or_false,false_or]at ho)
 ·simp only[lα,lε]at ho;obtain⟨rfl,rfl⟩:=ho;exact .inl ⟨hm.er,Ut r i x o⟩
 ·simp only[lα,lε]at ho;obtain⟨rfl,rfl⟩:=ho;rw[Uu r i x o];rcases huse (by omega)with⟨v,g1,g2⟩|⟨g1,g2⟩
  ·rw[g1,g2];exact .inl ⟨hm.er,rfl⟩
  ·rw[g1];exact .inr ⟨g2,rfl⟩
 ·simp only[lα,lε]at ho;obtain⟨rfl,rfl⟩:=ho;exact .inl ⟨hm.er,Uv r i x o⟩
 ·rw[Uw r i x o];cases hk:iG r.ks x.kids with
  |nil=>rw[hk]at ho;cases ho
  |cons y t=>
   rw[hk]at ho;simp only[lα,lε]at ho;obtain⟨rfl,rfl⟩:=ho;refine jV hm.er (fun g=>?_) (fun g=>?_)
   ·rw[aW,lη]at g;exact if_pos g
   ·rw[aW,mα]at g;exact if_neg g
 ·rw[Ux r i x o];match hk:iG r.ks x.kids,ho with
  |y::z::t,ho=>
   simp only[lα,lε]at ho;obtain⟨rfl,rfl⟩:=ho;have hb:=ag8 (h.bn _ (mι hx) o) y z;simp only[List.getD_cons_zero,List.getD_cons_succ,hb];unfold ag9;refine jV hm.er (fun g=>?_) (fun g=>?_)
   ·rw[g,cond_true,if_neg (afB _ _ _ g)]
   ·rw[g,cond_false];rfl
 ·rw[Uy r i x o];simp only[lα,lε]at ho;obtain⟨rfl,rfl⟩:=ho;obtain⟨b1,b2⟩:=aha x.name (iG r.ks x.kids);by_cases g:(fX x.name (iG r.ks x.kids)).2=0
  ·rw[if_neg (b1.1 g),b2 g];refine .inl ⟨?_,rfl⟩;unfold Au;rw[if_pos g];exact hm.er
  ·rw[if_pos (Classical.byContradiction fun e=>g (b1.2 e))];refine .inr ⟨?_,rfl⟩;unfold Au;rw[if_neg g];exact kK g
 ·rw[Uz r i x o];unfold RI at ho;unfold Tv;rw[hm.pr]at ho;cases hlk:j2 r.p x.name x.v.s with
  |none=>
   rw[hlk]at ho;simp only[lα,lε]at ho;obtain⟨rfl,rfl⟩:=ho;exact .inr ⟨kK (by decide),rfl⟩
  |some m=>
   rw[hlk]at ho;cases hk:iG r.ks x.kids with
   |nil=>rw[hk]at ho;cases ho
   |cons y t=>
    rw[hk]at ho;simp only[lα,lε]at ho;obtain⟨rfl,rfl⟩:=ho;refine jV hm.er (fun g=>?_) (fun g=>?_)
    ·simp only[lδ,lη]at g;exact if_pos g
    ·refine if_neg fun e=>?_
     have e1:y=3:=e.1;have e2:t=m.params.map (·.kind):=e.2;rw[mη e1,mη e2]at g;cases g
 ·cases hk:iG r.ks x.kids with
  |nil=>rw[hk]at ho;cases ho
  |cons y t=>
   rw[hk]at ho;simp only at ho;cases hs:yh c i x y with
   |none=>rw[hs]at ho;cases ho
   |some c3=>
    rw[hs]at ho;simp only[lα,lε]at ho;obtain⟨rfl,rfl⟩:=ho;rcases agW (t:=t) hm o hs with g|g
    ·exact g
    ·exact absurd hk g
 ·rw[UA r i x o];cases hk:iG r.ks x.kids with
  |nil=>rw[hk]at ho;cases ho
  |cons y t=>
   rw[hk]at ho;simp only[lα,lε]at ho;obtain⟨rfl,rfl⟩:=ho;rcases huse (by omega)with⟨v,g1,g2⟩|⟨g1,g2⟩
   ·rw[g1,g2];refine jV hm.er (fun g=>?_) (fun g=>?_)
    ·simp only[lη]at g;exact if_pos g.symm
    ·simp only[mα]at g;exact if_neg (fun e=>g (Eq.symm e))
   ·rw[g1];exact .inr ⟨fun e=>g2 (kQ e),rfl⟩
 ·simp only[lα,lε]at ho;obtain⟨rfl,rfl⟩:=ho;exact .inl ⟨hm.er,by simp only[cp,o,Int.reduceEq,if_false]⟩
 ·rw[PP r i x o];cases hk:iG r.ks x.kids with
  |nil=>rw[hk]at ho;cases ho
  |cons y t=>
   rw[hk]at ho;simp only[lα,lε]at ho;obtain⟨rfl,rfl⟩:=ho;exact jV hm.er (fun g=>if_pos (of_decide_eq_true g)) (fun g=>if_neg (of_decide_eq_false g))
 ·rw[PQ r i x o];cases hk:iG r.ks x.kids with
  |nil=>rw[hk]at ho;cases ho
  |cons y t=>
   rw[hk]at ho;simp only[lα,lε]at ho;obtain⟨rfl,rfl⟩:=ho;exact jV hm.er (fun g=>if_pos (of_decide_eq_true g)) (fun g=>if_neg (of_decide_eq_false g))
 ·rw[PS r i x o];rw[hm.re]at ho;cases hk:iG r.ks x.kids with
  |nil=>
   rw[hk]at ho;simp only[lα,lε]at ho;obtain⟨rfl,rfl⟩:=ho;refine jV hm.er (fun g=>if_pos ?_) (fun g=>if_neg ?_)
   ·by_cases e:r.m.result=0
    ·exact e
    ·rw[mβ e]at g;cases g
   ·intro e;rw[mη e]at g;cases g
  |cons y t=>
   rw[hk]at ho;simp only[lα,lε]at ho;obtain⟨rfl,rfl⟩:=ho;by_cases e:r.m.result=0
   ·rw[mη e];refine .inr ⟨fun g=>?_,if_neg (fun g=>g.1 e)⟩
    have:=tN (kQ g);cases this
   ·rw[mβ e];show NR (cj (cj c i true) i _) 0 _;refine jV (show(cj c i true).er=0 from hm.er) (fun g=>if_pos ⟨e,of_decide_eq_true g⟩) (fun g=>if_neg (fun q=>of_decide_eq_false g q.2))
 ·simp only[lα,lε]at ho;obtain⟨rfl,rfl⟩:=ho;exact .inl ⟨hm.er,by simp only[cp,o,Int.reduceEq,if_false]⟩
 ·rw[PT r i x o];simp only[lα,lε]at ho;obtain⟨rfl,rfl⟩:=ho;exact jV hm.er (fun g=>if_pos (of_decide_eq_true g)) (fun g=>if_neg (of_decide_eq_false g))
 ·rw[PU r i x o];simp only[lα,lε]at ho;obtain⟨rfl,rfl⟩:=ho;exact jV hm.er (fun g=>if_pos (of_decide_eq_true g)) (fun g=>if_neg (of_decide_eq_false g))
 ·rw[PV r i x o];cases hk:iG r.ks x.kids with
  |nil=>rw[hk]at ho;cases ho
  |cons y t=>
   rw[hk]at ho;simp only[lα,lε]at ho;obtain⟨rfl,rfl⟩:=ho;exact jV hm.er (fun g=>if_pos (of_decide_eq_true g)) (fun g=>if_neg (of_decide_eq_false g))
end
end Go.Ab
end
section
namespace Go.Ab
open Go
noncomputable section
theorem Dr:∀(a b i:Nat) (r:RS),iW (a+b) i r=match iW a i r with|none=>none|some r1=>iW b (i+a) r1
 |0,b,i,r=>by simp only[iW,Nat.zero_add,Nat.add_zero]
 |a+1,b,i,r=>by
  rw[show a+1+b=(a+b)+1 by omega];simp only[iW];cases yE r i with
  |none=>rfl
  |some r1=>
   simp only;rw[Dr a b (i+1) r1,show i+1+a=i+(a+1) by omega]
theorem Ge:∀(n i:Nat) {r r':RS},Bf r→iW n i r=some r'→Bf r'
 |0,_,r,r',h,e=>by simp only[iW,lα]at e;subst e;exact h
 |n+1,i,r,r',h,e=>by
  simp only[iW]at e;cases hs:yE r i with
  |none=>rw[hs]at e;cases e
  |some r1=>
   rw[hs]at e;refine Ge n (i+1) ?_ e;unfold yE at hs;split at hs
   ·cases hs
   ·rw[mχ]at hs;obtain⟨k,_,rfl⟩:=hs;exact h.put i k
theorem Qg:∀(n i:Nat) {r r':RS},iW n i r=some r'→∀j,j<i→r'.ks.getD j 0=r.ks.getD j 0
 |0,_,r,r',e,j,hj=>by simp only[iW,lα]at e;subst e;rfl
 |n+1,i,r,r',e,j,hj=>by
  simp only[iW]at e;cases hs:yE r i with
  |none=>rw[hs]at e;cases e
  |some r1=>
   rw[hs]at e;rw[Qg n (i+1) e j (by omega)];unfold yE at hs;split at hs
   ·cases hs
   ·rw[mχ]at hs;obtain⟨k,_,rfl⟩:=hs;show(r.ks.set i k).getD j 0=_;rw[lρ,lρ,mυ (by omega)]
def afm (M:Me)(P:List Int)(f:Nat):Prop:=∀(lo i:Nat),H0 M.nodes lo i→∀(x:No),M.nodes[i]?=some x→∀(r:RS) (c:CS) (d:Bool) (k:Int) (c':CS),r.m=M→r.par=P→Bf r→JR c r lo→(x.op≠18→d=uo M.nodes P i)→(x.op=18→uo M.nodes P i=false)→kz f c (i:Int) d=some (k,c')→
 (c'.er=0∧(x.op≠18→d=false)∧∃r',iW (i+1 - lo) lo r=some r'∧JR c' r' (i+1)∧k=r'.ks.getD i 0)∨(c'.er≠0∧iW (i+1 - lo) lo r=none)
theorem abn {ns:List No}{lo i:Nat}(h:H0 ns lo i):∃x,ns[i]?=some x:=⟨_,lγ h.lt⟩
theorem OL {M:Me}{P:List Int}{f:Nat}(hv:afm M P f):∀(l:List Int) (lo hi:Nat),Ch M.nodes lo l hi→∀(r:RS) (c:CS) (kl:List Int) (c':CS),r.m=M→r.par=P→Bf r→JR c r lo→(∀k:Nat,(k:Int)∈l→uo M.nodes P k=false)→ib (fun c k=>kz f c k false) c l=some (kl,c')→
  (c'.er=0∧∃r',iW (hi - lo) lo r=some r'∧JR c' r' hi∧kl=iG r'.ks l)∨(c'.er≠0∧iW (hi - lo) lo r=none)
 |[],lo,hi,h,r,c,kl,c',hm,hp,hb,hc,ha,hk=>by
  cases h;simp only[ib,lα,lε]at hk;obtain⟨rfl,rfl⟩:=hk;rw[Nat.sub_self];exact .inl ⟨hc.er,r,rfl,hc,rfl⟩
 |_::l,lo,hi,h,r,c,kl,c',hm,hp,hb,hc,ha,hk=>by
  cases h with
  | @cons _ q _ _ h1 h2=>
   have l1:=h1.le;have l2:=h2.le;obtain⟨x,hx⟩:=abn h1;simp only[ib]at hk;cases e1:kz f c (q:Int) false with
   |none=>rw[e1]at hk;cases hk
   |some r1=>
    obtain⟨y,c1⟩:=r1;rw[e1]at hk;simp only at hk;cases e2:ib (fun c k=>kz f c k false) c1 l with
    |none=>rw[e2]at hk;cases hk
    |some r2=>
     obtain⟨ys,c2⟩:=r2;rw[e2]at hk;simp only[lα,lε]at hk;obtain⟨rfl,rfl⟩:=hk;have hq:=ha q (lυ ..);rw[show hi - lo=(q+1 - lo)+(hi - (q+1)) by omega,Dr,show lo+(q+1 - lo)=q+1 by omega];rcases hv lo q h1 x hx r c false y c1 hm hp hb hc (fun _=>hq.symm) (fun _=>hq) e1 with⟨g1,_,r1,g2,g3,g4⟩|⟨g1,g2⟩
     ·rw[g2];obtain⟨m1,_,_,m4⟩:=Qi _ _ _ _ g2;rcases OL hv l (q+1) hi h2 r1 c1 ys c2 (m1.trans hm) (m4.trans hp) (Ge _ _ hb g2) g3 (fun k hk=>ha k (lψ _ hk)) e2 with⟨b1,r2,b2,b3,b4⟩|⟨b1,b2⟩
      ·refine .inl ⟨b1,r2,b2,b3,?_⟩;have:=Qg _ _ b2 q (by omega);unfold iG at b4 ⊢
       rw[List.map_cons,Int.toNat_natCast,this,←g4,b4]
      ·exact .inr ⟨b1,b2⟩
     ·rw[g2];exact .inr ⟨fun e=>g1 (KK (fun c k r e=>MD f c k false r e) l c1 e2 e),rfl⟩
def Fl (ns:List No)(pre:List Int):Bool:=match pre.getLast? with|some k=>jM ns k|none=>false
theorem aak {k:Int}(l:List Int):∀(pre:List Int),(∀y∈pre,y≠k)→(pre++k::l).findIdx? (fun y=>av y k)=some pre.length
 |[],_=>by simp[mτ,aW]
 |y::pre,h=>by
  rw[List.cons_append,mτ,aW,mβ (h y (lυ ..)),aak l pre fun z hz=>h z (lψ _ hz)];rfl
theorem ab0 {ns:List No}{k:Nat}(l pre:List Int)(h:∀y∈pre,y≠(k:Int)):Yn ns (pre++(k:Int)::l) k=Fl ns pre:=by
 unfold Yn Fl;rw[aak l pre h];rcases List.eq_nil_or_concat pre with rfl|⟨t,z,rfl⟩
 ·rfl
 ·rw[List.concat_eq_append]at*
  have e1:(t++[z]).length=t.length+1:=by simp
  have e2:((t++[z])++(k:Int)::l)[t.length]?=some z:=by simp
  have e3:(t++[z]).getLast?=some z:=by simp
  rw[e1,e3];simp only[e2]
theorem ab1 {ns:List No}{P:List Int}{k i:Nat}(hp:P.getD k 0=i)(ho:cE ns (i:Int)≠18):uo ns P k=false:=by
 unfold uo;simp only[hp];rw[if_neg (by omega),if_neg ho]
theorem Yo {ns:List No}{P:List Int}{k i:Nat}{x:No}(hp:P.getD k 0=i)(hx:ns[i]?=some x)(ho:x.op=18):uo ns P k=Yn ns x.kids k:=by
 unfold uo;simp only[hp];rw[if_neg (by omega),pP hx,if_pos ho];unfold Sb;rw[oA,hx];rfl
theorem Tq {M:Me}{P:List Int}{f:Nat}(hv:afm M P f){b:Nat}{x:No}(hx:M.nodes[b]?=some x)(h18:x.op=18):∀(l pre:List Int) (lo hi:Nat),Ch M.nodes lo l hi→pre++l=x.kids→(∀y∈pre,y<(lo:Int))→∀(r:RS) (c:CS) (c':CS),r.m=M→r.par=P→Bf r→JR c r lo→sG (kz f) c l (Fl M.nodes pre)=some c'→
  (c'.er=0∧∃r',iW (hi - lo) lo r=some r'∧JR c' r' hi)∨(c'.er≠0∧iW (hi - lo) lo r=none)
 |[],pre,lo,hi,h,hpre,hlt,r,c,c',hm,hp,hb,hc,hk=>by
  cases h;simp only[sG,lα]at hk;subst hk;rw[Nat.sub_self];exact .inl ⟨hc.er,r,rfl,hc⟩
 |_::l,pre,lo,hi,h,hpre,hlt,r,c,c',hm,hp,hb,hc,hk=>by
  cases h with
  | @cons _ q _ _ h1 h2=>
   have l1:=h1.le;have l2:=h2.le;obtain⟨y,hy⟩:=abn h1;have hqk:(q:Int)∈x.kids:=by rw[←hpre];simp
   have hpq:P.getD q 0=(b:Int):=by
    have:=hb.tr.p1 b x (by rw[hm];exact hx) q hqk;rw[hp]at this;exact this
   have hy18:y.op≠18:=by
    have:=(aaE (hb.kv x (by rw[hm];exact mι hx)) hqk).1 h18;rw[hm,pP hy]at this;exact this
   have hd:Fl M.nodes pre=uo M.nodes P q:=by
    rw[Yo hpq hx h18,←hpre,ab0 l pre (fun z hz e=>by have:=hlt z hz;omega)]
   simp only[sG]at hk;cases e1:kz f c (q:Int) (Fl M.nodes pre)with
   |none=>rw[e1]at hk;cases hk
   |some r1=>
    obtain⟨k,c1⟩:=r1;rw[e1]at hk;simp only at hk;rw[show hi - lo=(q+1 - lo)+(hi - (q+1)) by omega,Dr,show lo+(q+1 - lo)=q+1 by omega];rcases hv lo q h1 y hy r c _ k c1 hm hp hb hc (fun _=>hd) (fun e=>absurd e hy18) e1 with⟨g1,g0,r1,g2,g3,g4⟩|⟨g1,g2⟩
    ·rw[g2];obtain⟨m1,_,_,m4⟩:=Qi _ _ _ _ g2;rw[g0 hy18,g3.ns,m1,hm,Bool.false_or]at hk;have hle:Fl M.nodes (pre++[(q:Int)])=jM M.nodes q:=by unfold Fl;simp
     rw[←hle]at hk;exact Tq hv hx h18 l (pre++[(q:Int)]) (q+1) hi h2 (by rw[←hpre];simp) (fun z hz=>by
      rcases mρ.1 hz with hz|hz
      ·have:=hlt z hz;omega
      ·simp at hz;omega) r1 c1 c' (m1.trans hm) (m4.trans hp) (Ge _ _ hb g2) g3 hk
    ·rw[g2];exact .inr ⟨fun e=>g1 (RF (fun c k d r e=>MD f c k d r e) l c1 _ hk e),rfl⟩
theorem aiO {r:RS}(h:Bf r){lo i:Nat}(hs:H0 r.m.nodes lo i){x:No}(hx:r.m.nodes[i]?=some x)(h18:x.op=18)(s:List Nat):QF r (i+1) s=QF r lo s:=by
 unfold QF;split
 ·rfl
 ·refine t7 _ _ _ fun j y hy o hn=>?_
  rw[Nat.zero_add];have hle:=hs.le;have hne:j≠i:=fun e=>by
   subst e;rw[hx]at hy;simp only[lα]at hy;subst hy;omega
  unfold sgt;by_cases h1:j<lo
  ·have:=h.tr.sub_out hs h1;rw[mη h1,mη (show j<i+1 by omega),Bool.true_and,Bool.true_and];exact decide_eq_decide.2 ⟨fun _=>by omega,fun _=>by omega⟩
  ·rw[mβ h1,Bool.false_and];by_cases h2:j<i
   ·have:=h.tr.sub_in hs (by omega) h2;rw[mβ (show ¬((i+1:Nat):Int)≤r.par.getD j 0 by omega),Bool.and_false]
   ·rw[mβ (show ¬j<i+1 by omega),Bool.false_and]
theorem aiq {c:CS}{r:RS}{i:Nat}{x:No}(h:Bf r)(hm:JR c r i)(hx:r.m.nodes[i]?=some x)(h18:x.op=18)(sc:List (List Nat×Vr))(hsc:∀s,c8 sc s=QF r (i+1) s)(k:Int):JR {c with sc:=sc} (r.put i k) (i+1) where
 er:=hm.er
 ns:=hm.ns
 pr:=hm.pr
 re:=hm.re
 fs:=hm.fs
 ki j:=by rw[aeY h.ok.sl hx,if_neg (fun g=>by have:=g.1;omega)];exact hm.ki j
 va j:=by rw[Qt hx,if_neg (fun g=>by have:=g.1;omega)];exact hm.va j
 lo:=by show c.lo=r.m.params++uZ (r.m.nodes.take (i+1));rw[La hx,if_neg (by omega),mε];exact hm.lo
 l8:=hm.l8
 le s:=by
  show c8 c.le s=if((r.m.params.any fun f=>aN f.name s)||nI (r.m.nodes.take (i+1)) s)=true then some true else none
  rw[Si hx,mβ (by omega),Bool.false_and,Bool.or_false];exact hm.le s
 sc:=hsc
theorem UG {r:RS}{i:Nat}{x:No}(hx:r.m.nodes[i]?=some x):iW 1 i r=(xm r i (cp r i x)).map (r.put i):=by
 simp only[iW,yE,hx];cases(xm r i (cp r i x)).map (r.put i)<;>rfl
theorem LU {r:RS}(h:Bf r){i:Nat}{x:No}(hx:r.m.nodes[i]?=some x)(k:Int):k=(r.put i k).ks.getD i 0:=by
 show k=(r.ks.set i k).getD i 0;have:=Fc hx;rw[lρ,qγ (by rw[h.ok.sl];exact this)];rfl
theorem ME {M:Me}{P:List Int}:∀f,afm M P f
 |0,lo,i,hs,x,hx,r,c,d,k,c',hm,hp,hb,hc,hd,ha,h=>by simp[kz]at h
 |f+1,lo,i,hs,x,hx,r,c,d,k,c',hm,hp,hb,hc,hd,ha,h=>by
  have hle:=hs.le;have hxr:r.m.nodes[i]?=some x:=by rw[hm];exact hx
  have hsr:H0 r.m.nodes lo i:=by rw[hm];exact hs
  cases hs with
  | @mk _ _ x' hx' hch=>
   rw[hx]at hx';simp only[lα]at hx';subst hx';have hxc:jY c.ns (i:Int)=some x:=by rw[hc.ns,oA];exact hxr
   simp only[kz,hxc]at h;rw[show i+1 - lo=(i - lo)+1 by omega,Dr,show lo+(i - lo)=i by omega];by_cases h18:x.op=18
   ·rw[if_pos h18]at h;unfold qM at h;cases e1:sG (kz f) c x.kids false with
    |none=>rw[e1]at h;cases h
    |some c1=>
     rw[e1]at h;simp only[lα,lε]at h;rcases Tq (ME f) hx h18 x.kids [] lo i hch rfl (fun y hy=>by cases hy) r c c1 hm hp hb hc e1 with⟨g1,r1,g2,g3⟩|⟨g1,g2⟩
     ·rw[g2];obtain⟨m1,m2,m3,m4⟩:=Qi _ _ _ _ g2;have hb1:=Ge _ _ hb g2;have hx1:r1.m.nodes[i]?=some x:=by rw[m1];exact hxr
      have hsc:∀s,c8 c.sc s=QF r1 (i+1) s:=fun s=>by
       rw[aiO hb1 (by rw[m1];exact hsr) hx1 h18,hc.sc];unfold QF;rw[m1,m4]
      have hmb:=aiq hb1 g3 hx1 h18 c.sc hsc 0;simp only;rw[UG hx1,PW _ _ _ h18];have hno:∀o,xm r1 i o=o:=fun o=>by unfold xm;rw[m1,hm,m4,hp,ha h18];rfl
      rw[hno];have hlen:c1.ns.length=r1.m.nodes.length:=by rw[g3.ns]
      have hi:=Fc hx1;obtain⟨rfl,rfl⟩:=h;by_cases hroot:(i:Int)=(c1.ns.length:Int) - 1
      ·have hvv:(decide (c1.re=0)||jM c1.ns (i:Int))=(decide (r1.m.result=0)||jM r1.m.nodes (i:Int)):=by rw[g3.re,g3.ns]
       rw[if_pos hroot,hvv];by_cases hre:r1.m.result=0
       ·rw[mη hre,Bool.true_or,if_neg (fun e=>e.2.1 hre)];exact .inl ⟨g1,fun e=>absurd h18 e,_,rfl,hmb,LU hb1 hx1 0⟩
       ·rw[mβ hre,Bool.false_or];cases hen:jM r1.m.nodes (i:Int)with
        |true=>
         rw[if_neg (fun e=>by have:=e.2.2;cases this)];exact .inl ⟨g1,fun e=>absurd h18 e,_,rfl,hmb,LU hb1 hx1 0⟩
        |false=>
         rw[if_pos ⟨by omega,hre,rfl⟩];exact .inr ⟨fun e=>absurd (tN e) (by simp),rfl⟩
      ·rw[if_neg hroot,if_neg (fun e=>hroot (by have:=e.1;omega))];exact .inl ⟨g1,fun e=>absurd h18 e,_,rfl,hmb,LU hb1 hx1 0⟩
     ·rw[g2];refine .inr ⟨fun e=>g1 ?_,rfl⟩
      rw[←h.2]at e;split at e
      ·have:=kQ e;exact this
      ·exact e
   ·rw[if_neg h18]at h;cases e1:ib (fun c k=>kz f c k false) c x.kids with
    |none=>rw[e1]at h;cases h
    |some r1=>
     obtain⟨kl,c1⟩:=r1;rw[e1]at h;simp only at h;have haf:∀k:Nat,(k:Int)∈x.kids→uo M.nodes P k=false:=fun k hk=>by
      have:=hb.tr.p1 i x hxr k hk;rw[hp]at this;exact ab1 this (by rw[pP hx];exact h18)
     rcases OL (ME f) x.kids lo i hch r c kl c1 hm hp hb hc haf e1 with⟨g1,r1,g2,g3,g4⟩|⟨g1,g2⟩
     ·rw[g2];obtain⟨m1,m2,m3,m4⟩:=Qi _ _ _ _ g2;have hb1:=Ge _ _ hb g2;have hx1:r1.m.nodes[i]?=some x:=by rw[m1];exact hxr
      rw[if_pos g1]at h;cases e2:opT c1 (i:Int) x kl with
      |none=>rw[e2]at h;cases h
      |some r2=>
       obtain⟨k2,c2⟩:=r2;rw[e2]at h;simp only[lα,lε]at h;obtain⟨rfl,rfl⟩:=h;subst g4;simp only;rw[UG hx1];have hda:uo r1.m.nodes r1.par i=d:=by rw[m1,hm,m4,hp];exact(hd h18).symm
       rcases ag3 hb1 g3 hx1 h18 e2 with⟨z1,z2⟩|⟨z1,z2⟩
       ·rw[z2];unfold xm;rw[hda];cases d with
        |true=>
         refine .inr ⟨fun e=>?_,rfl⟩
         rw[Di]at e;exact absurd (tN e) (by simp)
        |false=>
         have hmm:=air hb1 g3 hx1 h18 (ajs e2 z1) (fun h8=>by
          rw[LW _ _ _ h8]at z2;split at z2
          ·assumption
          ·cases z2)
         exact .inl ⟨by rw[Di];exact z1,fun _=>rfl,_,rfl,hmm,LU hb1 hx1 k2⟩
       ·rw[z2,NO];exact .inr ⟨fun e=>by rw[Di]at e;exact z1 (kQ e),rfl⟩
     ·rw[g2];rw[if_neg g1]at h;simp only[lα,lε]at h;obtain⟨rfl,rfl⟩:=h;exact .inr ⟨g1,rfl⟩
end
end Go.Ab
end
section
namespace Go.Ab
open Go
noncomputable section
def Cl {α:Type}(nm:α→List Nat)(mk:α→Nat→Vr)(l:List α)(k:Nat)(s:List Nat):Option Vr:=match (l.take k).findIdx? fun f=>aN (nm f) s with
 |some j=>l[j]?.map fun f=>mk f j
 |none=>none
theorem fst_none {α:Type}{nm:α→List Nat}{mk:α→Nat→Vr}{l:List α}{k:Nat}{s:List Nat}:Cl nm mk l k s=none↔((l.take k).any fun f=>aN (nm f) s)=false:=by
 unfold Cl;cases hf:(l.take k).findIdx? fun f=>aN (nm f) s with
 |none=>
  refine⟨fun _=>?_,fun _=>rfl⟩
  rw[qθ];intro x hx;rw[mω.1 hf x hx];simp
 |some j=>
  obtain⟨h1,h2,_⟩:=lτ.1 hf;have h3:j<l.length:=by simp at h1;omega
  have h4:((l.take k).any fun f=>aN (nm f) s)=true:=qν.2 ⟨_,lι h1,h2⟩;simp only[lγ h3,Option.map_some,h4];exact⟨fun g=>(by cases g),fun g=>(by cases g)⟩
theorem aeQ {α:Type}{nm:α→List Nat}{mk:α→Nat→Vr}{l:List α}{k:Nat}(hk:k<l.length)(h:((l.take k).any fun f=>aN (nm f) (nm l[k]))=false)(s:List Nat):Cl nm mk l (k+1) s=if s=nm l[k]then some (mk l[k] k)else Cl nm mk l k s:=by
 have htl:(l.take k).length=k:=by simp;omega
 unfold Cl;rw[List.take_add_one,lγ hk,Option.toList_some,List.findIdx?_append,htl];by_cases e:s=nm l[k]
 ·subst e;rw[if_pos rfl];have:(l.take k).findIdx? (fun f=>aN (nm f) (nm l[k]))=none:=xL h;rw[this];simp[mτ,de,lγ hk]
 ·rw[if_neg e];have:([l[k]].findIdx? fun f=>aN (nm f) s)=none:=by
   simp[mτ,de];exact fun g=>e g.symm
  rw[this];simp
def Og {α:Type}(nm:α→List Nat)(l:List α)(i:Nat):Bool:=match l[i]? with
 |some x=>(l.take i).any fun f=>aN (nm f) (nm x)
 |none=>false
theorem TR (all:List Fe):∀(l:List Fe) (k:Nat) (acc:List (List Nat×Vr)),all.drop k=l→k≤all.length→(∀s,c8 acc s=Cl Fe.name (fun f j=>⟨f.kind,j,true⟩) all k s)→
  (∃fs,Ck acc l k=some fs∧(∀i,k≤i→Og Fe.name all i=false)∧∀s,c8 fs s=Cl Fe.name (fun f j=>⟨f.kind,j,true⟩) all all.length s)∨(Ck acc l k=none∧∃i,k≤i∧i<all.length∧Og Fe.name all i=true)
 |[],k,acc,hd,hk,ha=>by
  have hl:k=all.length:=by
   have:=congrArg List.length hd;simp at this;omega
  subst hl;exact .inl ⟨acc,rfl,fun i hi=>by unfold Og;rw[lθ hi],ha⟩
 |x::l,k,acc,hd,hk,ha=>by
  have hlt:k<all.length:=by
   rcases lπ k all.length with h1|h1
   ·exact h1
   ·rw[qβ h1]at hd;cases hd
  rw[lξ hlt]at hd;simp only[lμ]at hd;obtain⟨rfl,hd⟩:=hd;have hdk:Og Fe.name all k=(all.take k).any fun f=>aN f.name all[k].name:=by unfold Og;rw[lγ hlt]
  simp only[Ck];cases hg:c8 acc all[k].name with
  |some w=>
   refine .inr ⟨rfl,k,Nat.le_refl _,hlt,?_⟩;rw[hdk];cases hb:(all.take k).any fun f=>aN f.name all[k].name with
   |true=>rfl
   |false=>
    rw[ha,fst_none.2 hb]at hg;cases hg
  |none=>
   rw[ha,fst_none]at hg;rcases TR all l (k+1) (nK acc all[k].name ⟨all[k].kind,k,true⟩) hd hlt (fun s=>by rw[nq,ha,aeQ hlt hg])with⟨fs,g1,g2,g3⟩|⟨g1,i,g2,g3,g4⟩
   ·refine .inl ⟨fs,g1,fun i hi=>?_,g3⟩
    by_cases e:i=k
    ·subst e;rw[hdk];exact hg
    ·exact g2 i (by omega)
   ·exact .inr ⟨g1,i,by omega,g3,g4⟩
theorem Im (a:Ac):uU a=true↔∀i,i<a.fields.length→Og Fe.name a.fields i=false:=by
 unfold uU;rw[mζ];refine⟨fun h i hi=>?_,fun h i hi=>?_⟩
 ·have:=h i (by simpa using hi);unfold Og;rw[lγ hi]at this ⊢
  simpa using this
 ·have hi2:i<a.fields.length:=by simpa using hi
  have:=h i hi2;unfold Og at this;rw[lγ hi2]at this ⊢
  simp only at this ⊢
  rw[this];rfl
theorem adh (a:Ac):(∃fs,Ck [] a.fields 0=some fs∧uU a=true∧∀(r:RS),r.a=a→∀s,c8 fs s=Xn r s)∨(Ck [] a.fields 0=none∧uU a=false):=by
 rcases TR a.fields a.fields 0 [] rfl (Nat.zero_le _) (fun s=>by simp[c8,Cl])with⟨fs,g1,g2,g3⟩|⟨g1,i,g2,g3,g4⟩
 ·refine .inl ⟨fs,g1,(Im a).2 fun i _=>g2 i (Nat.zero_le _),fun r hr s=>?_⟩
  rw[g3,←hr];unfold Cl Xn;rw[hr,List.take_length];all_goals (cases a.fields.findIdx? fun f=>aN f.name s<;>rfl)
 ·refine .inr ⟨g1,?_⟩;cases h:uU a with
  |false=>rfl
  |true=>rw[(Im a).1 h i g3]at g4;cases g4
structure PaI (c:CS)(r:RS)(k:Nat):Prop where
 er:c.er=0
 ns:c.ns=r.m.nodes
 pr:c.pr=r.p
 re:c.re=r.m.result
 fs:∀s,c8 c.fs s=Xn r s
 ki:c.ki=[]
 va:c.va=[]
 lo:c.lo=r.m.params.take k
 le:∀s,c8 c.le s=if((r.m.params.take k).any fun f=>aN f.name s)=true then some true else none
 sc:∀s,c8 c.sc s=Cl Pa.name (fun f j=>⟨f.kind,j,false⟩) r.m.params k s
def Ht (r:RS)(i:Nat):Bool:=match r.m.params[i]? with
 |some x=>(r.a.fields.any fun f=>aN f.name x.name)||((r.m.params.take i).any fun f=>aN f.name x.name)
 |none=>false
theorem adj (r:RS)(s:List Nat):(Xn r s).isSome=r.a.fields.any fun f=>aN f.name s:=by
 unfold Xn;cases hf:r.a.fields.findIdx? fun f=>aN f.name s with
 |some j=>
  obtain⟨h1,h2,_⟩:=lτ.1 hf;have:(r.a.fields.any fun f=>aN f.name s)=true:=qν.2 ⟨_,lι h1,h2⟩;rw[this];simp only[lγ h1,Option.map_some,Option.isSome_some]
 |none=>
  have:(r.a.fields.any fun f=>aN f.name s)=false:=by
   rw[qθ];intro x hx;rw[mω.1 hf x hx];simp
  rw[this];rfl
theorem Up (r:RS)(hq:r.m.params.length<1501):∀(l:List Pa) (k:Nat) (c:CS),r.m.params.drop k=l→k≤r.m.params.length→PaI c r k→
  (∃c',yB c l=some (some c')∧(∀i,k≤i→Ht r i=false)∧PaI c' r r.m.params.length)∨(yB c l=some none∧∃i,k≤i∧i<r.m.params.length∧Ht r i=true)
 |[],k,c,hd,hk,hc=>by
  have hl:k=r.m.params.length:=by
   have:=congrArg List.length hd;simp at this;omega
  subst hl;exact .inl ⟨c,rfl,fun i hi=>by unfold Ht;rw[lθ hi],hc⟩
 |x::l,k,c,hd,hk,hc=>by
  have hlt:k<r.m.params.length:=by
   rcases lπ k r.m.params.length with h1|h1
   ·exact h1
   ·rw[qβ h1]at hd;cases hd
  rw[lξ hlt]at hd;simp only[lμ]at hd;obtain⟨rfl,hd⟩:=hd;have hdk:Ht r k=((r.a.fields.any fun f=>aN f.name r.m.params[k].name)||((r.m.params.take k).any fun f=>aN f.name r.m.params[k].name)):=by unfold Ht;rw[lγ hlt]
  have hdup:Ap c r.m.params[k].name=Ht r k:=by
   rw[hdk];unfold Ap;rw[hc.fs,hc.le,←adj];cases Xn r r.m.params[k].name with
   |some v=>rfl
   |none=>cases(r.m.params.take k).any fun f=>aN f.name r.m.params[k].name<;>rfl
  simp only[yB];rw[hdup];cases hb:Ht r k with
  |true=>rw[if_pos rfl];exact .inr ⟨rfl,k,Nat.le_refl _,hlt,hb⟩
  |false=>
   rw[if_neg (by decide)];rw[hdk,qδ]at hb;have hll:c.lo.length=k:=by rw[hc.lo];simp;omega
   unfold nf;rw[if_pos (by omega)];simp only;have hn:PaI {c with sc:=nK c.sc r.m.params[k].name ⟨r.m.params[k].kind,c.lo.length,false⟩,le:=nK c.le r.m.params[k].name true,lo:=c.lo++[⟨r.m.params[k].name,r.m.params[k].kind⟩]} r (k+1):=by
    refine⟨hc.er,hc.ns,hc.pr,hc.re,hc.fs,hc.ki,hc.va,?_,fun s=>?_,fun s=>?_⟩
    ·show c.lo++_=_;rw[List.take_add_one,lγ hlt,hc.lo];rfl
    ·show c8 (nK c.le _ true) s=_;rw[nq,hc.le,List.take_add_one,lγ hlt,Option.toList_some,List.any_append];by_cases e:s=r.m.params[k].name
     ·subst e;simp[de]
     ·rw[if_neg e];have:([r.m.params[k]].any fun f=>aN f.name s)=false:=by
       simp[de];exact fun g=>e g.symm
      rw[this,Bool.or_false]
    ·show c8 (nK c.sc _ _) s=_;rw[nq,hc.sc,aeQ hlt hb.2,hll]
   rcases Up r hq l (k+1) _ hd hlt hn with⟨c',g1,g2,g3⟩|⟨g1,i,g2,g3,g4⟩
   ·refine .inl ⟨c',g1,fun i hi=>?_,g3⟩
    by_cases e:i=k
    ·subst e;rw[hdk,hb.1,hb.2];rfl
    ·exact g2 i (by omega)
   ·exact .inr ⟨g1,i,by omega,g3,g4⟩
theorem IM (r:RS):yz r.a r.m=true↔∀i,i<r.m.params.length→Ht r i=false:=by
 unfold yz;rw[mζ];refine⟨fun h i hi=>?_,fun h i hi=>?_⟩
 ·have:=h i (by simpa using hi);unfold Ht;rw[lγ hi]at this ⊢
  simpa using this
 ·have hi2:i<r.m.params.length:=by simpa using hi
  have:=h i hi2;unfold Ht at this;rw[lγ hi2]at this ⊢
  simp only at this ⊢
  rw[this];rfl
theorem adq {c:CS}{r:RS}(h:PaI c r r.m.params.length)(hq:r.m.params.length≤8):JR c r 0 where
 er:=h.er
 ns:=h.ns
 pr:=h.pr
 re:=h.re
 fs:=h.fs
 ki i:=by
  rw[h.ki];show none=_;unfold kiM;cases ha:jY r.m.nodes i with
  |none=>rfl
  |some x=>
   obtain⟨j,rfl,_⟩:=C6 ha;exact(if_neg (fun g=>by have:=g.1;omega)).symm
 va i:=by
  rw[h.va];show none=_;unfold vaM;cases ha:jY r.m.nodes i with
  |none=>rfl
  |some x=>
   obtain⟨j,rfl,_⟩:=C6 ha;exact(if_neg (fun g=>by have:=g.1;omega)).symm
 lo:=by rw[h.lo,List.take_length];simp[uZ]
 l8:=by rw[h.lo,List.take_length];exact hq
 le s:=by rw[h.le,List.take_length];simp[nI]
 sc s:=by
  rw[h.sc];unfold Cl QF;rw[List.take_length];cases r.m.params.findIdx? fun f=>aN f.name s with
  |some j=>rfl
  |none=>exact(E2 (P:=sgt r.par 0) _ _ _ fun j _=>by unfold sgt;rw[mβ (by omega)];rfl).symm
end
end Go.Ab
end
section
namespace Go.Ab
open Go
set_option maxRecDepth 100000
noncomputable section
theorem ach {p:List Ac}(hp:zw p)(hv:cB p=true){a:Ac}(ha:a∈p){m:Me}(hm:m∈a.methods):Bf (RS.ini p a m):=by
 have hb:=(wG hv ha hm).1;have hb':=hb;unfold fY at hb';simp only[lδ,mζ]at hb';obtain⟨_,h18,hall,_⟩:=hb';refine⟨aiQ hb,aav hp hv ha hm,H8 hb,fun x hx h5=>?_,?_⟩
 ·have:=(hall x hx).2;unfold dC gA at this;rw[h5]at this;simp only[aW,Int.reduceEq,decide_false,decide_true,cond_true,cond_false]at this;cases hbo:binO.any fun t=>aN x.name t with
  |true=>rfl
  |false=>rw[hbo]at this;cases this
 ·rw[aW]at h18;exact of_decide_eq_true h18
theorem V7 {p:List Ac}(hp:zw p)(hv:cB p=true){a:Ac}(ha:a∈p){m:Me}(hm:m∈a.methods){fs:List (List Nat×Vr)}(hfs:∀s,c8 fs s=Xn (RS.ini p a m) s){o:Option CS}(h:pb 1501 p fs m=some o):
  (∃c r',o=some c∧c.er=0∧yz a m=true∧iW m.nodes.length 0 (RS.ini p a m)=some r'∧JR c r' m.nodes.length)∨((∀c,o=some c→c.er≠0)∧(yz a m=true→iW m.nodes.length 0 (RS.ini p a m)=none)):=by
 have hbf:=ach hp hv ha hm;have hq:=((Qw hv).2 a ha m hm).2;have hpi:PaI (CS.init p fs m) (RS.ini p a m) 0:=⟨rfl,rfl,rfl,rfl,hfs,rfl,rfl,by simp[CS.init],fun s=>by simp[CS.init,c8],fun s=>by simp[CS.init,c8,Cl]⟩
 unfold pb at h;rcases Up (RS.ini p a m) (by show m.params.length<1501;omega) m.params 0 _ rfl (Nat.zero_le _) hpi with⟨c1,g1,g2,g3⟩|⟨g1,i,_,g3,g4⟩
 ·rw[g1]at h;simp only at h;have hpo:=(IM (RS.ini p a m)).2 fun i _=>g2 i (Nat.zero_le _)
  have hmat:=adq g3 (by show m.params.length≤8;omega);obtain⟨k,hs,hk,hkp⟩:=hbf.tr.root;obtain⟨x,hx⟩:=abn hs;have he:((m.nodes.length:Int) - 1)=(k:Int):=by
   have:k+1=m.nodes.length:=hk;omega
  rw[he]at h;have hx18:x.op=18:=by
   have:=hbf.r18;rw[show(RS.ini p a m).m.nodes.length - 1=k by omega,pP hx]at this;exact this
  have hroot:uo m.nodes (yA m.nodes) k=false:=by
   unfold uo;have:(yA m.nodes).getD k 0= -1:=hkp;simp only[this];rfl
  have hk1:k+1 - 0=m.nodes.length:=hk;cases hvt:kz 1501 c1 (k:Int) false with
  |none=>rw[hvt]at h;cases h
  |some rr=>
   obtain⟨y,c2⟩:=rr;rw[hvt]at h;simp only[lα]at h;rcases ME (M:=m) (P:=yA m.nodes) 1501 0 k hs x hx (RS.ini p a m) c1 false y c2 rfl rfl hbf hmat (fun e=>absurd hx18 e) (fun _=>hroot) hvt with⟨b1,_,r',b2,b3,_⟩|⟨b1,b2⟩
   ·rw[hk1]at b2;rw[show k+1=m.nodes.length from hk]at b3;exact .inl ⟨c2,r',h.symm,b1,hpo,b2,b3⟩
   ·rw[hk1]at b2;exact .inr ⟨fun c e=>by rw[←h]at e;simp only[lα]at e;rw[←e];exact b1,fun _=>b2⟩
 ·rw[g1]at h;simp only[lα]at h;refine .inr ⟨fun c e=>(by rw[←h]at e;cases e),fun e=>?_⟩
  have:=(IM (RS.ini p a m)).1 e i g3;rw[this]at g4;cases g4
theorem Tn {α:Type}(l:List α)(nm:α→List Nat)(s:List Nat):(l.any fun x=>decide (nm x=s))=l.any fun x=>aN (nm x) s:=by
 congr 1;funext x;rw[de]
theorem Uc {p:List Ac}(hp:zw p)(hv:cB p=true){a:Ac}(ha:a∈p){fs:List (List Nat×Vr)}(hfs:∀m,∀s,c8 fs s=Xn (RS.ini p a m) s){i:Nat}:∀(l:List Me) (j:Nat) (acc:List CS) {o:An ⊕ List CS},a.methods.drop j=l→j≤a.methods.length→Cy 1501 p fs i a.methods l j acc=some o→
  (∃b,o= .inr b∧vU (fun k=>(AP p a k).isSome) l.length j=true)∨(∃e,o= .inl e∧e.er≠0∧vU (fun k=>(AP p a k).isSome) l.length j=false)
 |[],j,acc,o,hd,hj,h=>by
  simp only[Cy,lα]at h;exact .inl ⟨acc,h.symm,rfl⟩
 |m::l,j,acc,o,hd,hj,h=>by
  have hlt:j<a.methods.length:=by
   rcases lπ j a.methods.length with h1|h1
   ·exact h1
   ·rw[qβ h1]at hd;cases hd
  rw[lξ hlt]at hd;simp only[lμ]at hd;obtain⟨rfl,hd⟩:=hd;have hmm:a.methods[j]∈a.methods:=lι _;simp only[Cy]at h;simp only[List.length_cons,vU];rw[Tn]at h;have hmet:AP p a j=if((a.methods.take j).any fun f=>aN f.name a.methods[j].name)=true then none else if yz a a.methods[j]=true then(iW a.methods[j].nodes.length 0 (RS.ini p a a.methods[j])).map (·.ks)else none:=by unfold AP;rw[lγ hlt]
  by_cases hdup:((a.methods.take j).any fun f=>aN f.name a.methods[j].name)=true
  ·rw[if_pos hdup]at h hmet;simp only[lα]at h;refine .inr ⟨_,h.symm,(show(7:Int)≠0 by decide),?_⟩;rw[hmet];rfl
  ·rw[if_neg hdup]at h hmet;cases hc:pb 1501 p fs a.methods[j]with
   |none=>rw[hc]at h;cases h
   |some oc=>
    rw[hc]at h;rcases V7 hp hv ha hmm (hfs _) hc with⟨c,r',g1,g2,g3,g4,_⟩|⟨g1,g2⟩
    ·subst g1;simp only at h;rw[if_pos g2]at h;rw[if_pos g3,g4]at hmet;rw[hmet];simp only[Option.map_some,Option.isSome_some,Bool.true_and];exact Uc hp hv ha hfs l (j+1) _ hd hlt h
    ·have hmn:AP p a j=none:=by
      rw[hmet];by_cases hpo:yz a a.methods[j]=true
      ·rw[if_pos hpo,g2 hpo];rfl
      ·rw[if_neg hpo]
     rw[hmn];cases oc with
     |none=>
      simp only[lα]at h;exact .inr ⟨_,h.symm,(show(7:Int)≠0 by decide),rfl⟩
     |some c=>
      simp only at h;rw[if_neg (g1 c rfl)]at h;simp only[lα]at h;exact .inr ⟨_,h.symm,g1 c rfl,rfl⟩
theorem Wt {p:List Ac}{t:Nat}(ht:t<p.length):decide (p.findIdx? (fun b=>aN b.name p[t].name)=some t)=!((p.take t).any fun x=>aN x.name p[t].name):=by
 cases hb:(p.take t).any fun x=>aN x.name p[t].name with
 |true=>
  rw[qν]at hb;obtain⟨x,hx,h1⟩:=hb;obtain⟨i,hi,rfl⟩:=qε hx;have hit:i<t:=by simp at hi;omega
  simp only[Bool.not_true,mα];intro e;obtain⟨_,_,h3⟩:=lτ.1 e;rw[qι]at h1;exact h3 i hit h1
 |false=>
  simp only[Bool.not_false,lη];refine lτ.2 ⟨ht,by rw[de];simp,fun j hj h=>?_⟩
  rw[qθ]at hb;have hjl:j<(p.take t).length:=by simp;omega
  refine hb _ (lι hjl) ?_;rw[qι];exact h
theorem UN {p:List Ac}(hp:zw p)(hv:cB p=true):∀(l:List Ac) (j:Nat) (acc:List (List CS)) {o:An},p.drop j=l→j≤p.length→CZ 1501 p l j acc=some o→(o.er=0↔vU (Xg p) l.length j=true)∧(o.er=0→∃bs,o= .good bs)
 |[],j,acc,o,hd,hj,h=>by
  simp only[CZ,lα]at h;subst h;exact⟨⟨fun _=>rfl,fun _=>rfl⟩,fun _=>⟨_,rfl⟩⟩
 |a::l,j,acc,o,hd,hj,h=>by
  have hlt:j<p.length:=by
   rcases lπ j p.length with h1|h1
   ·exact h1
   ·rw[qβ h1]at hd;cases hd
  rw[lξ hlt]at hd;simp only[lμ]at hd;obtain⟨rfl,hd⟩:=hd;have ha:p[j]∈p:=lι _;simp only[CZ]at h;rw[Tn]at h;simp only[List.length_cons,vU];have htr:Xg p j=(!((p.take j).any fun x=>aN x.name p[j].name)&&(uU p[j]&&vU (fun k=>(AP p p[j] k).isSome) p[j].methods.length 0)):=by
   unfold Xg;rw[lγ hlt];simp only;rw[Wt hlt]
  rw[htr];have bad:∀(o:An),o.er≠0→(o.er=0↔false=true)∧(o.er=0→∃bs,o= .good bs):=fun o ho=>⟨⟨fun e=>absurd e ho,fun e=>by cases e⟩,fun e=>absurd e ho⟩
  cases hdup:(p.take j).any fun x=>aN x.name p[j].name with
  |true=>
   rw[hdup,if_pos rfl]at h;simp only[lα]at h;subst h;exact bad _ (show(7:Int)≠0 by decide)
  |false=>
   rw[hdup,if_neg (by decide)]at h;rcases adh p[j]with⟨fs,g1,g2,g3⟩|⟨g1,g2⟩
   ·rw[g1]at h;simp only at h;rw[g2];cases hm:Cy 1501 p fs j p[j].methods p[j].methods 0 []with
    |none=>rw[hm]at h;cases h
    |some om=>
     rw[hm]at h;rcases Uc hp hv ha (fun m s=>g3 (RS.ini p p[j] m) rfl s) p[j].methods 0 [] rfl (Nat.zero_le _) hm with⟨b,e1,e2⟩|⟨e,e1,e2,e3⟩
     ·subst e1;rw[e2];exact UN hp hv l (j+1) _ hd hlt h
     ·subst e1;simp only[lα]at h;subst h;rw[e3];exact bad _ e2
   ·rw[g1]at h;simp only[lα]at h;subst h;rw[g2];exact bad _ (show(7:Int)≠0 by decide)
theorem Yr {p:List Ac}(hp:zw p):((H2 p).er=0↔pH p=true)∧((H2 p).er=0→∃bs,H2 p= .good bs):=by
 unfold H2 pH;cases hv:cB p with
 |false=>exact⟨⟨fun e=>(by cases e),fun e=>(by cases e)⟩,fun e=>(by cases e)⟩
 |true=>
  obtain⟨o,ho⟩:=I5 hp hv;rw[ho];have:=UN hp hv p 0 [] rfl (Nat.zero_le _) ho;exact this
end
end Go.Ab
end
section
namespace Go.Ab
open Go
set_option maxRecDepth 100000
noncomputable section
def Ya (v:Va):Prop:=v.I.length<1048577∧v.L.length<1048577∧v.s.length<9223372036854775808
abbrev HM (s:List Nat):Prop:=s.length<9223372036854775808
structure B5 (a:Ac):Prop where
 nm:HM a.name
 fl:a.fields.length<1048577
 me:a.methods.length<1048577
 ff:∀f∈a.fields,HM f.name∧Ya f.init
 mm:∀m∈a.methods,HM m.name∧m.params.length<1048577∧m.nodes.length<1048577∧(∀q∈m.params,HM q.name)∧∀x∈m.nodes,HM x.name∧x.kids.length<1048577∧Ya x.v
theorem B5.z {a:Ac}(h:B5 a):GM 1048577 a:=⟨h.fl,h.me,fun f hf=>⟨(h.ff f hf).2.1,(h.ff f hf).2.2.1⟩,fun m hm=>⟨(h.mm m hm).2.1,(h.mm m hm).2.2.1,fun x hx=>⟨((h.mm m hm).2.2.2.2 x hx).2.1,((h.mm m hm).2.2.2.2 x hx).2.2.1,((h.mm m hm).2.2.2.2 x hx).2.2.2.1⟩⟩⟩
theorem B5.s {a:Ac}(h:B5 a):Ns 9223372036854775808 a:=⟨⟨h.nm,h.nm⟩,fun f hf=>⟨(h.ff f hf).1,(h.ff f hf).1⟩,fun m hm=>⟨⟨(h.mm m hm).1,(h.mm m hm).1⟩,fun q hq=>⟨(h.mm m hm).2.2.2.1 q hq,(h.mm m hm).2.2.2.1 q hq⟩,fun x hx=>⟨⟨((h.mm m hm).2.2.2.2 x hx).1,((h.mm m hm).2.2.2.2 x hx).1⟩,⟨((h.mm m hm).2.2.2.2 x hx).2.2.2.2,((h.mm m hm).2.2.2.2 x hx).2.2.2.2⟩⟩⟩⟩
theorem aeX {n:Nat}{xs:List Da}(h:CT (n+3) 67 xs):∃v:Va,xs=v.cs∧Ya v:=by
 obtain⟨_,_,rfl,h1,_,_,rfl,h2,_,_,rfl,h3,_,_,rfl,h4,_,_,rfl,h5,rfl⟩:=Gw aif h;obtain⟨k,rfl,_⟩:=tL isI h1;obtain⟨m,rfl,_⟩:=tL isI h2;obtain⟨s,rfl,hs⟩:=uk isS h3;obtain⟨I,rfl,hI⟩:=Za h4;obtain⟨L,rfl,hL⟩:=afH h5;exact⟨⟨k,m,s,I,L⟩,rfl,by show I.length<_;omega,by show L.length<_;omega,hs⟩
theorem agE {n:Nat}{x:Da}(h:DT (n+4) 69 x):∃a:No,x=a.e∧HM a.name∧a.kids.length<1048577∧Ya a.v:=by
 obtain⟨cs,rfl,g⟩:=Am aax h;obtain⟨_,_,rfl,h1,_,_,rfl,h2,_,_,rfl,h3,_,_,rfl,h4,rfl⟩:=Gw aax g;obtain⟨k,rfl,_⟩:=tL isI h1;obtain⟨s,rfl,hs⟩:=uk isS h2;obtain⟨v,rfl,hv⟩:=aeX h3;obtain⟨I,rfl,hI⟩:=Za h4;exact⟨⟨k,s,v,I⟩,rfl,hs,by show I.length<_;omega,hv⟩
theorem aik {n:Nat}{x:Da}(h:DT (n+2) 76 x):∃a:Pa,x=a.e∧HM a.name:=by
 obtain⟨cs,rfl,g⟩:=Am aeV h;obtain⟨_,_,rfl,h1,_,_,rfl,h2,rfl⟩:=Gw aeV g;obtain⟨s,rfl,hs⟩:=uk isS h1;obtain⟨k,rfl,_⟩:=tL isI h2;exact⟨⟨s,k⟩,rfl,hs⟩
theorem aii {n:Nat}{x:Da}(h:DT (n+4) 74 x):∃a:Fe,x=a.e∧HM a.name∧Ya a.init:=by
 obtain⟨cs,rfl,g⟩:=Am aeT h;obtain⟨_,_,rfl,h1,_,_,rfl,h2,_,_,rfl,h3,rfl⟩:=Gw aeT g;obtain⟨s,rfl,hs⟩:=uk isS h1;obtain⟨k,rfl,_⟩:=tL isI h2;obtain⟨v,rfl,hv⟩:=aeX h3;exact⟨⟨s,k,v⟩,rfl,hs,hv⟩
theorem aij {n:Nat}{x:Da}(h:DT (n+6) 72 x):∃a:Me,x=a.e∧HM a.name∧a.params.length<1048577∧a.nodes.length<1048577∧(∀q∈a.params,HM q.name)∧∀x∈a.nodes,HM x.name∧x.kids.length<1048577∧Ya x.v:=by
 obtain⟨cs,rfl,g⟩:=Am aeU h;obtain⟨_,_,rfl,h1,_,_,rfl,h2,_,_,rfl,h3,_,_,rfl,h4,rfl⟩:=Gw aeU g;obtain⟨s,rfl,hs⟩:=uk isS h1;obtain⟨ps,rfl,hp,h2⟩:=Gv agB h2;obtain⟨k,rfl,_⟩:=tL isI h3;obtain⟨ns,rfl,hl,h4⟩:=Gv adr h4;obtain⟨ps,rfl,hq⟩:=lB (f:=Pa.e) (Q:=fun a=>HM a.name) (es:=ps) fun x hx=>aik (h2 x hx)
 obtain⟨ns,rfl,hv⟩:=lB (f:=No.e) (Q:=fun a=>HM a.name∧a.kids.length<1048577∧Ya a.v) (es:=ns) fun x hx=>agE (h4 x hx)
 rw[lβ]at hp hl;replace hp:ps.length≤1048576:=hp;replace hl:ns.length≤1048576:=hl;exact⟨⟨s,ps,k,ns⟩,rfl,hs,by show ps.length<_;omega,by show ns.length<_;omega,hq,hv⟩
theorem ajn {n:Nat}{x:Da}(h:DT (n+8) 44 x):∃a:Ac,x=a.e∧B5 a:=by
 obtain⟨cs,rfl,g⟩:=Am aib h;obtain⟨_,_,rfl,h1,_,_,rfl,h2,_,_,rfl,h3,rfl⟩:=Gw aib g;obtain⟨s,rfl,hs⟩:=uk isS h1;obtain⟨fs,rfl,hf,h2⟩:=Gv agz h2;obtain⟨ms,rfl,hm,h3⟩:=Gv agA h3;obtain⟨fs,rfl,hv⟩:=lB (f:=Fe.e) (Q:=fun a=>HM a.name∧Ya a.init) (es:=fs) fun x hx=>aii (h2 x hx)
 obtain⟨ms,rfl,hw⟩:=lB (f:=Me.e) (Q:=fun a=>HM a.name∧a.params.length<1048577∧a.nodes.length<1048577∧(∀q∈a.params,HM q.name)∧∀x∈a.nodes,HM x.name∧x.kids.length<1048577∧Ya x.v) (es:=ms) fun x hx=>aij (h3 x hx)
 rw[lβ]at hf hm;replace hf:fs.length≤1048576:=hf;replace hm:ms.length≤1048576:=hm;exact⟨⟨s,fs,ms⟩,rfl,⟨hs,by show fs.length<_;omega,by show ms.length<_;omega,hv,hw⟩⟩
theorem agF {n:Nat}{x:Da}(h:DT (n+10) 24 x):∃p:List Ac,.p x=pD p∧p.length<1048577∧∀a∈p,B5 a:=by
 obtain⟨cs,rfl,g⟩:=Am aeW h;obtain⟨_,_,rfl,h1,rfl⟩:=Gw aeW g;obtain⟨ts,rfl,hl,h1⟩:=Gv aic h1;obtain⟨p,rfl,hp⟩:=lB (f:=Ac.e) (Q:=B5) (es:=ts) fun x hx=>ajn (h1 x hx)
 rw[lβ]at hl;replace hl:p.length≤1048576:=hl;exact⟨p,rfl,by omega,hp⟩
theorem ky {b:Nat}{p:List Ac}(h:cB p=true)(hz:∀a∈p,GM b a)(hb:b≤1000000000000):zw p:=⟨(I6 h hz hb).1,(I6 h hz hb).2⟩
theorem Ys {p:List Ac}(h:cB p=false):H2 p= .bad 0 0 0 1:=by unfold H2;rw[h];rfl
theorem Ve {n b:Nat}(p:List Ac)(hz:∀a∈p,GM b a)(hb:b≤1000000000000):evFn lay0.tab (n+9009) 18 [pD p] []=some (.tup [.p (H2 p).pl.e,.p (.int .i64 (H2 p).er)],[]):=by
 cases hv:cB p with
 |true=>exact MU p (ky hv hz hb)
 |false=>
  have h0:=MS (n:=n+7496) p hz hb;rw[hv]at h0;have h1:evFn lay0.tab (n+9008) 53 [pD p] []=some (.tup [.p .nilptr,.p (plD 0 0 0),.p (.int .i64 1)],[]):=by
   apply z6 (n+9007) ⟨p.map Ac.e⟩;unfold pk;rw[show(D.p (aa.e ⟨p.map Ac.e⟩))= .p (.agg [.slice 3 (p.map Ac.e)])from rfl];simp only[ab h0,ba,aD,aC];rfl
  rw[Ys hv];apply NE (n+9008) ⟨p.map Ac.e⟩;unfold wN;show br lay0.tab (n+9008) 53 [pD p] [] _=_;simp only[ab h1,bH,ec,ba,aC,bz,dPl,afE,afD,dBx,af5,af4,bt,aD];rfl
theorem MO {n b:Nat}(p:List Ac)(hz:∀a∈p,GM b a)(hbb:b≤1000000000000)(hbn:b≤n+4498)(hs:∀a∈p,Ns n a)(hb:n≤200000000000000000000):ChkOut (pH p) (evFn lay0.tab (n+4509) 78 [pD p] []):=by
 cases hv:cB p with
 |true=>exact DC p (ky hv hz hbb) hs hb
 |false=>
  suffices hS:ChkOut (pH p) (j5 (br lay0.tab (n+4508)) (n+4508) ⟨p.map Ac.e⟩) by
   obtain⟨pl,e,h1,h2⟩:=hS;exact⟨pl,e,Ew (n+4508) ⟨p.map Ac.e⟩ _ h1,h2⟩
  have e1:=ab (DA (n:=n+1) p hz hbb (by omega) (fun a ha=>(hs a ha).mono (by omega)) (by omega));unfold j5 pH;rw[show(D.p (aa.e ⟨p.map Ac.e⟩))= .p (.agg [.slice 3 (p.map Ac.e)])from rfl,e1];simp only[ba,aD,aC,hv];exact⟨⟨0,0,0⟩,1,rfl,by simp⟩
theorem ab2 {b:Nat}{p:List Ac}(hz:∀a∈p,GM b a)(hb:b≤1000000000000):(H2 p).er=0↔pH p=true:=by
 cases hv:cB p with
 |true=>exact(Yr (ky hv hz hb)).1
 |false=>
  rw[Ys hv];unfold pH;rw[hv];exact⟨fun e=>(by cases e),fun e=>(by cases e)⟩
def Uj (p:List Ac):Bool:=pH p
theorem ah4 {b:Nat}{p:List Ac}(hz:∀a∈p,GM b a)(hb:b≤1000000000000):av (H2 p).er 0=Uj p:=by
 have:=ab2 hz hb;unfold Uj;rw[aW,mδ,lη];exact this
theorem yv {p:List Ac}(h:Uj p=true):cB p=true:=by
 unfold Uj pH at h;rw[lδ]at h;exact h.1
end
end Go.Ab
end
section
namespace Go.Ab
open Go
set_option maxRecDepth 100000
noncomputable section
theorem ah0 (u:bq)(K:bq→R):cf u.e K=K u:=rfl
theorem Bc {n b:Nat}(p:List Ac)(hz:∀a∈p,GM b a)(hb:b≤1000000000000):evFn lay0.tab (n+9010) 40 [pD p] []=some (.p (.bool (Uj p)),[]):=by
 apply NC (n+9009) ⟨p.map Ac.e⟩;have h1:=ab (Ve (n:=n) p hz hb);unfold rS;rw[show((D.p (aa.e ⟨p.map Ac.e⟩)))=pD p from rfl];simp only[h1,bH,ec,ba,aC,bz,ah0,ah4 hz hb,bw,dL]
theorem Bb {n b:Nat}(p:List Ac)(hz:∀a∈p,GM b a)(hbb:b≤1000000000000)(hbn:b≤n+4498)(hs:∀a∈p,Ns n a)(hb:n≤200000000000000000000):evFn lay0.tab (n+4510) 43 [pD p] []=some (.p (.bool (Uj p)),[]):=by
 apply NA (n+4509) ⟨p.map Ac.e⟩;obtain⟨pl,e,h1,h2⟩:=MO (n:=n) p hz hbb hbn hs hb;have he:av e 0=Uj p:=by
  unfold Uj;rw[aW,mδ,lη];exact h2
 unfold rQ;rw[show((D.p (aa.e ⟨p.map Ac.e⟩)))=pD p from rfl];simp only[ab h1,bH,ec,ba,aC,bz,ah0,he,bw,dL]
end
end Go.Ab
end
section
namespace Go.Ab
open Go
set_option maxRecDepth 100000
noncomputable section
theorem Gm {m:Nat}(b:Bool)(u:ah)(ps:List Pa)(k0:kV→R)(hl:ps.length<1501):∀(e q j:Nat) (acc:List Int),j+e=ps.length→e<q→acc.length≤j→
  L_tLookup_1 (br lay0.tab m) m k0 q (b,ps.map Pa.e,(ps.length:Int),(j:Int),u,acc.length,acc.map iE)=k0 (b,ps.map Pa.e,(ps.length:Int),(ps.length:Int),u,(acc++(ps.drop j).map (·.kind)).length,(acc++(ps.drop j).map (·.kind)).map iE)
 |0,q+1,j,acc,h,_,_=>by
  obtain rfl:j=ps.length:=by omega
  rw[xh];simp only[lw,bX,aR,List.drop_length,List.map_nil,mε]
 |e+1,q+1,j,acc,h,hq,ha=>by
  have hj:j<ps.length:=by omega
  rw[xh,lξ hj];have hm:acc.map iE++[Da.int .i64 ps[j].kind]=(acc++[ps[j].kind]).map iE:=by rw[List.map_append];rfl
  have hb:cR (acc.length+[Da.int .i64 ps[j].kind].length) 8=true:=Ad (by simp;omega);simp only[lw,cG (show((j:Int)<(ps.length:Int)) by omega),aO,aE,aM,aI hj,bf,dPa,show ps[j].r.Kind=ps[j].kind from rfl,hm,wS (show j<bT by unfold bT;omega),lβ,show Nat.beq acc.length acc.length=true from Nat.beq_refl _,hb];refine(Gm b u ps k0 hl e q (j+1) (acc++[ps[j].kind]) (by omega) (by omega) (by simp;omega)).trans ?_;simp only[mκ,List.singleton_append,List.map_cons]
def abg (o:Option Me):D:= .tup [.p (.agg [.slice 1 (((o.map fun m=>m.params.map (·.kind)).getD []).map iE),.int .i64 ((o.map (·.result)).getD 0)]),.p (.bool o.isSome)]
def UE (p:List Ac)(t m:List Nat):Option Me:=if(H2 p).er=0 then j2 p t m else none
theorem Iy {p:List Ac}{t m:List Nat}{x:Me}(h:j2 p t m=some x):∃a∈p,x∈a.methods:=by
 unfold j2 at h;cases hf:p.find? fun a=>decide (a.name=t)with
 |none=>rw[hf]at h;cases h
 |some a=>rw[hf]at h;exact⟨a,List.mem_of_find?_eq_some hf,List.mem_of_find?_eq_some h⟩
theorem HU {n:Nat}(p:List Ac)(hp:zw p)(t m:List Nat):evFn lay0.tab (n+9010) 19 [pD p,.p (.str t),.p (.str m)] []=some (abg (UE p t m),[]):=by
 apply VH (n+9009) ⟨p.map Ac.e⟩ t m;have h1:=ab (MU (n:=n) p hp);have h2:=ab (HV (n:=n+7505) p t m hp.ty fun a ha=>(hp.ac a ha).me);unfold zT UE;rw[show((D.p (aa.e ⟨p.map Ac.e⟩)))=pD p from rfl];simp only[h1,bH,ec,ba,bz,aC,ai0,aW,co];by_cases he:(H2 p).er=0
 ·rw[if_pos he,if_pos he];show br lay0.tab (n+7505+1504) 54 [.p (.agg [.slice 3 (p.map Ac.e)]),.p (.str t),.p (.str m)] [] _=_;rw[h2];cases hl:j2 p t m with
  |none=>
   simp only[Option.getD_none,bH,ec,ba,aD,aC,bt,Option.isSome_none];have:=Gm (m:=n+9009) false (Me.r ⟨[],[],0,[]⟩) [] (fun(b39,l40,i41,i42,u43,n44,l45)=>iL b39 (some (D.tup [.p (.agg [.slice 1 (List.take n44 (List.drop 0 l45)),.int .i64 u43.Result]),.p (.bool true)],[])) (some (D.tup [.p (.agg [.slice 1 (List.take n44 (List.drop 0 l45)),.int .i64 u43.Result]),.p (.bool false)],[]))) (by decide) 0 (n+9009) 0 [] (by simp) (by omega) (by simp)
   exact this
  |some x=>
   obtain⟨a,ha,hx⟩:=Iy hl;have hps:=((hp.ac a ha).mm x hx).ps;simp only[Option.getD_some,bH,ec,ba,aD,aC,bt,Option.isSome_some];have:=Gm (m:=n+9009) true x.r x.params (fun(b39,l40,i41,i42,u43,n44,l45)=>iL b39 (some (D.tup [.p (.agg [.slice 1 (List.take n44 (List.drop 0 l45)),.int .i64 u43.Result]),.p (.bool true)],[])) (some (D.tup [.p (.agg [.slice 1 (List.take n44 (List.drop 0 l45)),.int .i64 u43.Result]),.p (.bool false)],[]))) hps x.params.length (n+9009) 0 [] (by omega) (by omega) (by simp)
   rw[List.drop_zero,List.nil_append]at this;rw[QB,aO];show L_tLookup_1 _ _ _ _ (true,x.params.map Pa.e,((x.params.map Pa.e).length:Int),0,x.r,0,[])=_;rw[lβ];refine Eq.trans this ?_;simp only[aO,List.drop_zero,abg,Option.map_some,Option.getD_some,Option.isSome_some];rw[mθ (by simp)];rfl
 ·rw[if_neg he,if_neg he];rfl
end
end Go.Ab
end
section
namespace Go.Ab
open Go
set_option maxRecDepth 100000
noncomputable section
def okR (p:List Ac)(t m:Int):Option (Ac×Me):=bif pH p then(match jY p t with
 |some a=>(match jY a.methods m with|some x=>some (a,x)|none=>none)
 |none=>none)else none
theorem Ta {n:Nat}(p:List Ac)(hp:zw p)(hs:∀a∈p,Ns n a)(hb:n≤200000000000000000000)(t m:Int):evFn lay0.tab (n+4510) 56 [pD p,.p (.int .i64 t),.p (.int .i64 m)] []=some (.p (.bool (okR p t m).isSome),[]):=by
 apply abQ (n+4509) ⟨p.map Ac.e⟩ t m;obtain⟨pl,e,h1,h2⟩:=DC (n:=n) p hp hs hb;unfold Ju okR;simp only[show(D.p (aa.e ⟨p.map Ac.e⟩))=pD p from rfl,ab h1,bH,ec,ba,bz,aC,ahZ,lβ,aW];cases hc:pH p with
 |false=>
  rw[hc]at h2;have:¬e=0:=fun g=>by have:=h2.1 g;cases this
  simp only[this,decide_false,aR,cond_false,Option.isSome_none]
 |true=>
  rw[hc]at h2;simp only[h2.2 rfl,decide_true,aO,cond_true,bE,lQ,ep];by_cases h0:0≤t
  ·rw[if_pos h0];by_cases h1:t<(p.length:Int)
   ·rw[if_pos h1];obtain⟨j,rfl⟩:∃j:Nat,t=(j:Int):=⟨t.toNat,by omega⟩
    have hj:j<p.length:=by omega
    simp only[aE,aM,aI hj,bf,GZ,show p[j].r.Methods=p[j].methods.map Me.e from rfl,lβ];by_cases h2:0≤m
    ·rw[if_pos h2];by_cases h3:m<(p[j].methods.length:Int)
     ·rw[if_pos h3];obtain⟨k,rfl⟩:∃k:Nat,m=(k:Int):=⟨m.toNat,by omega⟩
      have hk:k<p[j].methods.length:=by omega
      simp only[aI hk,Option.isSome_some]
     ·rw[if_neg h3,m6 (.inr (by omega))];rfl
    ·rw[if_neg h2,m6 (.inl (by omega))];rfl
   ·rw[if_neg h1,m6 (.inr (by omega))];rfl
  ·rw[if_neg h0,m6 (.inl (by omega))];rfl
def BK (p:List Ac)(t m:List Nat):Option Me:=bif pH p then j2 p t m else none
theorem I0 {m:Nat}(ps:List Pa)(u:ah)(hu:u.Params=ps.map Pa.e)(res:Int)(k0:gP→R)(hl:ps.length<1501):∀(e q j:Nat) (acc:List Int),j+e=ps.length→e<q→acc.length≤j→
  L_r19Lookup_1 (br lay0.tab m) m k0 q ((j:Int),u,acc.length,res,acc.map iE)=k0 ((ps.length:Int),u,(acc++(ps.drop j).map (·.kind)).length,res,(acc++(ps.drop j).map (·.kind)).map iE)
 |0,q+1,j,acc,h,_,_=>by
  obtain rfl:j=ps.length:=by omega
  rw[si];simp only[gY,hu,lβ,bX,aR,List.drop_length,List.map_nil,mε]
 |e+1,q+1,j,acc,h,hq,ha=>by
  have hj:j<ps.length:=by omega
  rw[si,lξ hj];have hm:acc.map iE++[Da.int .i64 ps[j].kind]=(acc++[ps[j].kind]).map iE:=by rw[List.map_append];rfl
  have hb:cR (acc.length+([Da.int .i64 ps[j].kind]:LD).length) 8=true:=Ad (by simp;omega);simp only[gY,hu,lβ,cG (show((j:Int)<(ps.length:Int)) by omega),aO,aE,aM,aI hj,bf,dPa,show ps[j].r.Kind=ps[j].kind from rfl,hm,wS (show j<bT by unfold bT;omega),Nat.beq_refl,hb];refine(I0 ps u hu res k0 hl e q (j+1) (acc++[ps[j].kind]) (by omega) (by omega) (by simp;omega)).trans ?_;simp only[mκ,List.singleton_append,List.map_cons]
theorem Ba {n:Nat}(p:List Ac)(hp:zw p)(hs:∀a∈p,Ns n a)(hb:n≤200000000000000000000)(t m:List Nat):evFn lay0.tab (n+4511) 23 [pD p,.p (.str t),.p (.str m)] []=some (abg (BK p t m),[]):=by
 apply Nw (n+4510) ⟨p.map Ac.e⟩ t m;have e0:=ab (rJ (n:=n+3008) p t hp.ty);unfold rO BK j2;rw[show(D.p (aa.e ⟨p.map Ac.e⟩))= .p (.agg [.slice 3 (p.map Ac.e)])from rfl,e0];simp only[ba,bz,aC];rw[xN (fun a:Ac=>a.name),←jP];cases hf:p.findIdx? fun a=>decide (a.name=t)with
 |none=>
  have e1:=ab (Ta (n:=n) p hp hs hb (-1) 0);have:okR p (-1) 0=none:=by unfold okR;rw[m6 (.inl (by decide))];cases pH p<;>rfl
  rw[this]at e1;simp only[jR,e1,ba,aD,aC,Option.isSome_none,aR];cases pH p<;>rfl
 |some j=>
  have hj:=(lτ.1 hf).1;have e1:=ab (Ta (n:=n) p hp hs hb (j:Int) 0);have e2:=ab (uz (n:=n+3008) p[j] m (hp.ac _ (lι _)).me);simp only[Ac.e]at e2;simp only[jR,e1,ba,aD,aC,lγ hj];unfold okR;rw[aI hj];cases hc:pH p with
  |false=>rfl
  |true=>
   simp only[cond_true];cases hmm:p[j].methods with
   |nil=>
    rw[m6 (.inr (by simp))];rfl
   |cons x0 r0=>
    rw[←hmm];have h0:0<p[j].methods.length:=by rw[hmm];simp
    rw[show((0:Int))=((0:Nat):Int)from rfl,aI h0];simp only[Option.isSome_some,aO,aE,aM,aI hj,bf,GZ,e2,ba,bz,aC];rw[xN (fun a:Me=>a.name),←jP];cases hg:p[j].methods.findIdx? fun a=>decide (a.name=m)with
    |none=>rfl
    |some w=>
     have hw:=(lτ.1 hg).1;have hps:=((hp.ac _ (lι hj)).mm _ (lι hw)).ps;simp only[jR,u0 (show ¬(w:Int)<0 by omega),aR,show p[j].r.Methods=p[j].methods.map Me.e from rfl,aE,aM,aI hw,bf,QB,lγ hw];have g:=I0 (m:=n+4510) p[j].methods[w].params p[j].methods[w].r rfl p[j].methods[w].r.Result (fun(i32,u33,n34,i35,l36)=>some ((.tup [(.p (.agg [(.slice 1 (List.take n34 (List.drop 0 l36))),(.int .i64 i35)])),(.p (.bool true))]),[])) hps p[j].methods[w].params.length (n+4510) 0 [] (by omega) (by omega) (by simp)
     refine Eq.trans g ?_;simp only[List.drop_zero,List.nil_append,abg,Option.map_some,Option.getD_some,Option.isSome_some];rw[mθ (by simp)];rfl
end
end Go.Ab
end
section
namespace Go.Ab
open Go
set_option maxRecDepth 100000
noncomputable section
theorem ae6 {p:List Ac}(hp:zw p)(t m:List Nat):UE p t m=BK p t m:=by
 unfold UE BK;have:=(Yr hp).1;cases hc:pH p with
 |true=>rw[if_pos (this.2 hc)];rfl
 |false=>rw[if_neg (fun e=>by rw[this.1 e]at hc;cases hc)];rfl
end
end Go.Ab
end
section
namespace Go.Ab
open Go
set_option maxRecDepth 100000
noncomputable section
theorem QJ {n:Nat}(a b:Ac):evFn lay0.tab (n+1) 47 [.p a.e,.box 0 0] [b.r.b]=some (.p (.bool (decide (a.name=b.name))),[b.r.b]):=by
 apply Rg n a.r b.r;unfold vA;show iL (aN a.name b.name) _ _=_;rw[de];cases decide (a.name=b.name)<;>rfl
theorem Xw {n:Nat}(ts:List Ac)(y:Ac)(h:ts.length<1501):evFn lay0.tab (n+1504) 46 [.p (.slice 3 (ts.map Ac.e)),.fn 47 [.box 0 0]] [y.r.b]=some (.p (.bool (ts.any fun t=>decide (t.name=y.name))),[y.r.b]):=by
 have hi:evFn lay0.tab (n+1503) 81 [.p (.slice 3 (ts.map Ac.e)),.fn 47 [.box 0 0]] [y.r.b]=some (.p (.int .i64 (jR (ts.findIdx? fun t=>decide (t.name=y.name)))),[y.r.b]):=by
  apply Vw (n+1502) (ts.map Ac.e) y.r;unfold zI;rw[lβ];refine(aT ts (fun q i=>oa _ (n+1502) _ _ q (ts.map Ac.e,(ts.length:Int),i,y.r)) (fun t=>decide (t.name=y.name)) (fun i=>some (.p (.int .i64 i),[y.r.b])) (some (.p (.int .i64 (-1)),[y.r.b])) (fun q i hi=>?_) (fun q=>?_) (by omega)).trans ?_
  ·rw[w6];simp only[lf,cG (show((i:Int)<(ts.length:Int)) by omega),aO,aE,aM,aI hi,bf,GZ,wS (show i<bT by unfold bT;omega)];have:=QJ (n:=n+1501) ts[i] y;simp only[Ac.e]at this;simp only[ab this,ba,aD,bt];exact cU _ _ _
  ·rw[w6];simp only[lf,bX,aR]
  ·cases ts.findIdx? fun t=>decide (t.name=y.name)<;>rfl
 apply XT (n+1503) (ts.map Ac.e) y.r;unfold DP;simp only[ab hi,ba,bz,bt,aay];rw[List.findIdx?_isSome];cases ts.any (fun t=>decide (t.name=y.name))<;>rfl
def W4 (o:Option Me):List Int:=(o.map fun m=>m.params.map (·.kind)).getD []
def sgK (o:Option Me):Int:=(o.map (·.result)).getD 0
theorem UD (o:Option Me):abg o= .tup [.p (.agg [.slice 1 ((W4 o).map iE),.int .i64 (sgK o)]),.p (.bool o.isSome)]:=rfl
theorem aeI (l:LD)(i:Int)(K:dt→R):cJ (.agg [.slice 1 l,.int .i64 i]) K=K ⟨l,i⟩:=rfl
theorem Mr {p:List Ac}(hp:zw p)(t m:LN):(W4 (BK p t m)).length<1501:=by
 unfold W4;cases ho:BK p t m with
 |none=>simp
 |some x=>
  unfold BK at ho;cases hc:pH p with
  |false=>rw[hc]at ho;cases ho
  |true=>
   rw[hc]at ho;obtain⟨a,ha,hx⟩:=Iy ho;have:=((hp.ac a ha).mm x hx).ps;simpa using this
def E1 (a b:List Ac)(t:LN)(m:Me):Bool:=(BK b t m.name).isSome&&(av (sgK (BK a t m.name)) (sgK (BK b t m.name))&&decide (W4 (BK a t m.name)=W4 (BK b t m.name)))
def RY (a b:List Ac)(t:Ac):Bool:=(b.any fun u=>decide (u.name=t.name))&&t.methods.all (E1 a b t.name)
def RZ (a b:List Ac):Bool:=Uj a&&(Uj b&&a.all (RY a b))
theorem WU (p:List Ac):(D.p (aa.e ⟨p.map Ac.e⟩))=pD p:=rfl
theorem ago {n:Nat}(a b:List Ac)(ha:zw a)(hb:zw b)(t:Ac)(ht:t.methods.length<1501)(l:LD)(x y:Int)(k0:aa×aa×ae×ah×aJ×aJ→R)(k1:LD×Int×Int×LD×Int×Int×Bool×aa×aa×ae→R)(Z:R)(hk0:∀x,k0 x=Z){q:Nat}(hq:t.methods.length<q):
  L_sExtends_2 (br lay0.tab (n+9011)) (n+9011) k0 k1 q (l,x,y,t.methods.map Me.e,(t.methods.length:Int),0,⟨a.map Ac.e⟩,⟨b.map Ac.e⟩,t.r)=bif t.methods.all (E1 a b t.name)then k1 (l,x,y,t.methods.map Me.e,(t.methods.length:Int),(t.methods.length:Int),false,⟨a.map Ac.e⟩,⟨b.map Ac.e⟩,t.r)else Z:=by
 refine(aT t.methods (fun q i=>L_sExtends_2 _ (n+9011) _ _ q (l,x,y,t.methods.map Me.e,(t.methods.length:Int),i,⟨a.map Ac.e⟩,⟨b.map Ac.e⟩,t.r)) (fun m=>!E1 a b t.name m) (fun _=>Z) (k1 (l,x,y,t.methods.map Me.e,(t.methods.length:Int),(t.methods.length:Int),false,⟨a.map Ac.e⟩,⟨b.map Ac.e⟩,t.r)) (fun q i hi=>?_) (fun q=>?_) hq).trans ?_
 ·rw[uO];have e1:=ab (HU (n:=n+1) a ha t.name t.methods[i].name);have e2:=ab (HU (n:=n+1) b hb t.name t.methods[i].name);rw[ae6 ha]at e1;rw[ae6 hb]at e2;have e3:=ab (wL (n:=n+7508) (W4 (BK a t.name t.methods[i].name)) (W4 (BK b t.name t.methods[i].name)) (Mr ha _ _));simp only[jG,cG (show((i:Int)<(t.methods.length:Int)) by omega),aO,aE,aM,aI hi,bf,QB,show t.r.Name=t.name from rfl,show t.methods[i].r.Name=t.methods[i].name from rfl,WU,e1,e2,UD,bH,ec,ba,aeI,aD,aC,e3,bt,hk0,wS (show i<bT by unfold bT;omega),E1];refine Eq.trans ?_ (cU _ _ _);cases(BK b t.name t.methods[i].name).isSome
  ·rfl
  cases av (sgK (BK a t.name t.methods[i].name)) (sgK (BK b t.name t.methods[i].name))
  ·rfl
  cases decide (W4 (BK a t.name t.methods[i].name)=W4 (BK b t.name t.methods[i].name))<;>rfl
 ·rw[uO];simp only[jG,bX,aR]
 ·rw[dQ];cases t.methods.findIdx? fun m=>!E1 a b t.name m<;>rfl
theorem QQ {n c:Nat}(a b:List Ac)(ha:∀x∈a,GM c x)(hb:∀x∈b,GM c x)(hc:c≤1000000000000):evFn lay0.tab (n+9012) 14 [pD a,pD b] []=some (.p (.bool (RZ a b)),[]):=by
 apply Rr (n+9011) ⟨a.map Ac.e⟩ ⟨b.map Ac.e⟩;have h1:=ab (Bc (n:=n+1) a ha hc);have h2:=ab (Bc (n:=n+1) b hb hc);unfold vJ RZ;simp only[WU,h1,h2,ba,aD,aC,lβ];cases hka:Uj a with
 |false=>rfl
 |true=>
 cases hkb:Uj b with
 |false=>rfl
 |true=>
  have za:=ky (yv hka) ha hc;have zb:=ky (yv hkb) hb hc;have hla:=za.ty;simp only[Bool.not_true,aR,Bool.true_and];refine(aT a (fun q i=>lX _ (n+9011) _ _ _ q (a.map Ac.e,(a.length:Int),i,⟨a.map Ac.e⟩,⟨b.map Ac.e⟩)) (fun t=>!RY a b t) (fun _=>some (.p (.bool false),[])) (some (.p (.bool true),[])) (fun q i hi=>?_) (fun q=>?_) (by omega)).trans ?_
  ·rw[uN];have e1:=ab (Xw (n:=n+7507) b a[i] zb.ty);have hm:=(za.ac a[i] (lι _)).me;simp only[jF,cG (show((i:Int)<(a.length:Int)) by omega),aO,aE,aM,aI hi,bf,GZ,e1,ba,aD,bt,RY];refine Eq.trans ?_ (cU _ _ _);cases b.any fun u=>decide (u.name=a[i].name)
   ·rfl
   simp only[Bool.not_true,aR,Bool.true_and,show a[i].r.Methods=a[i].methods.map Me.e from rfl,lβ];refine Eq.trans (ago (n:=n) a b za zb a[i] hm (a.map Ac.e) (a.length:Int) (i:Int) _ _ (some (.p (.bool false),[])) (fun _=>rfl) (by omega)) ?_;cases a[i].methods.all (E1 a b a[i].name)
   ·rfl
   ·simp only[cond_true,wS (show i<bT by unfold bT;omega)];rfl
  ·rw[uN];simp only[jF,bX,aR]
  ·rw[dQ];cases a.findIdx? fun t=>!RY a b t<;>rfl
theorem MR {n:Nat}(p:List Ac)(s:LN)(h:p.length<1501):evFn lay0.tab (n+1502) 49 [pD p,.p (.str s)] []=some (.p (.int .i64 (jR (p.findIdx? fun a=>decide (a.name=s)))),[]):=by
 apply NB (n+1501) ⟨p.map Ac.e⟩ s;unfold rR;refine(aT p (fun q i=>kH _ (n+1501) _ _ q (s,i,⟨p.map Ac.e⟩)) (fun a=>decide (a.name=s)) (fun i=>some (.p (.int .i64 i),[])) (some (.p (.int .i64 (-1)),[])) (fun q i hi=>?_) (fun q=>?_) (by omega)).trans ?_
 ·rw[sw];simp only[hT,lβ,cG (show((i:Int)<(p.length:Int)) by omega),aO,aE,aM,aI hi,bf,GZ,show p[i].r.Name=p[i].name from rfl,de,wS (show i<bT by unfold bT;omega)];exact cU _ _ _
 ·rw[sw];simp only[hT,lβ,bX,aR]
 ·cases p.findIdx? fun a=>decide (a.name=s)<;>rfl
theorem aig (o:Option Nat):aX (jR o) 0=!o.isSome:=by
 cases o with
 |none=>rfl
 |some j=>simp only[jR,Option.isSome_some,Bool.not_true];exact u0 (by omega)
theorem ad1 {n:Nat}(a b:List Ac)(ha:zw a)(hb:zw b)(sa:∀x∈a,Ns n x)(sb:∀x∈b,Ns n x)(hn:n≤200000000000000000000)(t:Ac)(ht:t.methods.length<1501)(x:Int)(k0:aa×aa×ae×aJ×aJ→R)(k1:Int×Int×Bool×aa×aa×ae→R)(Z:R)(hk0:∀x,k0 x=Z){q:Nat}(hq:t.methods.length<q):
  L_r36Extends_2 (br lay0.tab (n+4511)) (n+4511) k0 k1 q (x,0,⟨a.map Ac.e⟩,⟨b.map Ac.e⟩,t.r)=bif t.methods.all (E1 a b t.name)then k1 (x,(t.methods.length:Int),false,⟨a.map Ac.e⟩,⟨b.map Ac.e⟩,t.r)else Z:=by
 refine(aT t.methods (fun q i=>L_r36Extends_2 _ (n+4511) _ _ q (x,i,⟨a.map Ac.e⟩,⟨b.map Ac.e⟩,t.r)) (fun m=>!E1 a b t.name m) (fun _=>Z) (k1 (x,(t.methods.length:Int),false,⟨a.map Ac.e⟩,⟨b.map Ac.e⟩,t.r)) (fun q i hi=>?_) (fun q=>?_) hq).trans ?_
 ·rw[ri];have e1:=ab (Ba (n:=n) a ha sa hn t.name t.methods[i].name);have e2:=ab (Ba (n:=n) b hb sb hn t.name t.methods[i].name);have e3:=ab (qd (n:=n+4510) (W4 (BK a t.name t.methods[i].name)) (W4 (BK b t.name t.methods[i].name)) (by have:=Mr ha t.name t.methods[i].name;omega) (by have:=Mr ha t.name t.methods[i].name;omega));simp only[fS,show t.r.Methods=t.methods.map Me.e from rfl,lβ,cG (show((i:Int)<(t.methods.length:Int)) by omega),aO,aE,aM,aI hi,bf,QB,show t.r.Name=t.name from rfl,show t.methods[i].r.Name=t.methods[i].name from rfl,WU,e1,e2,UD,bH,ec,ba,aeI,aD,aC,e3,bt,hk0,wS (show i<bT by unfold bT;omega),E1];refine Eq.trans ?_ (cU _ _ _);cases(BK b t.name t.methods[i].name).isSome
  ·rfl
  cases av (sgK (BK a t.name t.methods[i].name)) (sgK (BK b t.name t.methods[i].name))
  ·rfl
  cases decide (W4 (BK a t.name t.methods[i].name)=W4 (BK b t.name t.methods[i].name))<;>rfl
 ·rw[ri];simp only[fS,show t.r.Methods=t.methods.map Me.e from rfl,lβ,bX,aR]
 ·rw[dQ];cases t.methods.findIdx? fun m=>!E1 a b t.name m<;>rfl
theorem Jg {n c:Nat}(a b:List Ac)(ha:∀x∈a,GM c x)(hb:∀x∈b,GM c x)(hc:c≤1000000000000)(hcn:c≤n+4498)(sa:∀x∈a,Ns n x)(sb:∀x∈b,Ns n x)(hn:n+1≤200000000000000000000):evFn lay0.tab (n+4512) 15 [pD a,pD b] []=some (.p (.bool (RZ a b)),[]):=by
 apply J0 (n+4511) ⟨a.map Ac.e⟩ ⟨b.map Ac.e⟩;have h1:=ab (Bb (n:=n+1) a ha hc (by omega) (fun x hx=>(sa x hx).mono (by omega)) (by omega));have h2:=ab (Bb (n:=n+1) b hb hc (by omega) (fun x hx=>(sb x hx).mono (by omega)) (by omega));unfold qm RZ;simp only[WU,h1,h2,ba,aD,aC];cases hka:Uj a with
 |false=>rfl
 |true=>
 cases hkb:Uj b with
 |false=>rfl
 |true=>
  have za:=ky (yv hka) ha hc;have zb:=ky (yv hkb) hb hc;have hla:=za.ty;simp only[Bool.not_true,aR,Bool.true_and];refine(aT a (fun q i=>jp _ (n+4511) _ _ _ q (i,⟨a.map Ac.e⟩,⟨b.map Ac.e⟩)) (fun t=>!RY a b t) (fun _=>some (.p (.bool false),[])) (some (.p (.bool true),[])) (fun q i hi=>?_) (fun q=>?_) (by omega)).trans ?_
  ·rw[rh];have e1:=ab (MR (n:=n+3009) b a[i].name zb.ty);have hm:=(za.ac a[i] (lι _)).me;simp only[fR,lβ,cG (show((i:Int)<(a.length:Int)) by omega),aO,aE,aM,aI hi,bf,GZ,show a[i].r.Name=a[i].name from rfl,WU,e1,ba,bz,aC,aig,List.findIdx?_isSome,RY];refine Eq.trans ?_ (cU _ _ _);cases b.any fun u=>decide (u.name=a[i].name)
   ·rfl
   simp only[Bool.not_true,aR,Bool.true_and];refine Eq.trans (ad1 (n:=n) a b za zb sa sb (by omega) a[i] hm (i:Int) _ _ (some (.p (.bool false),[])) (fun _=>rfl) (by omega)) ?_;cases a[i].methods.all (E1 a b a[i].name)
   ·rfl
   ·simp only[cond_true,wS (show i<bT by unfold bT;omega)];rfl
  ·rw[rh];simp only[fR,lβ,bX,aR]
  ·rw[dQ];cases a.findIdx? fun t=>!RY a b t<;>rfl
end
end Go.Ab
end
section
namespace Go.Ab
open Go
set_option maxRecDepth 100000
noncomputable section
theorem UW {n:Nat}:evFn lay0.tab (n+1) 8 [] []=some (.p (.bool true),[]):=by kernel_rfl
def unI:Da→Int| .int _ i=>i|_=>0
def unS:Da→List Nat| .str s=>s|_=>[]
def UO:Da→List Da| .slice _ l=>l| .agg l=>l|_=>[]
def ajz (x:Da):Fe:=match UO x with|[a,b,k,n,s,I,L]=>⟨unS a,unI b,⟨unI k,unI n,unS s,(UO I).map unI,(UO L).map unS⟩⟩|_=>⟨[],0,⟨0,0,[],[],[]⟩⟩
def ajB (x:Da):No:=match UO x with|[a,b,k,n,s,I,L,c]=>⟨unI a,unS b,⟨unI k,unI n,unS s,(UO I).map unI,(UO L).map unS⟩,(UO c).map unI⟩|_=>⟨0,[],⟨0,0,[],[],[]⟩,[]⟩
def ajC (x:Da):Pa:=match UO x with|[a,b]=>⟨unS a,unI b⟩|_=>⟨[],0⟩
def ajA (x:Da):Me:=match UO x with|[a,b,c,d]=>⟨unS a,(UO b).map ajC,unI c,(UO d).map ajB⟩|_=>⟨[],[],0,[]⟩
def ajy (x:Da):Ac:=match UO x with|[a,b,c]=>⟨unS a,(UO b).map ajz,(UO c).map ajA⟩|_=>⟨[],[],[]⟩
def afb:List Da:=match YL with|some (.p (.slice _ l),_)=>l|_=>[]
def p7 (j:Nat):List Ac:=match afb[j]? with|some (.agg (.slice _ l::_))=>l.map ajy|_=>[]
def abx (j:Nat):LD:=match afb[j]? with|some (.agg [_,.slice _ l])=>l|_=>[]
theorem afe {n:Nat}:evFn lay0.tab (n+1) 9 [] []=some (.p (.slice 2 [.agg [.slice 3 ((p7 0).map Ac.e),.slice 2 (abx 0)],.agg [.slice 3 ((p7 1).map Ac.e),.slice 2 (abx 1)]]),[]):=by kernel_rfl
def sB (s:LN):Bool:=Nat.blt s.length 9223372036854775808
def nB (n:Nat):Bool:=Nat.blt n 1048577
def vB (v:Va):Bool:=nB v.I.length&&(nB v.L.length&&sB v.s)
def aB (a:Ac):Bool:=sB a.name&&(nB a.fields.length&&(nB a.methods.length&&((a.fields.all fun f=>sB f.name&&vB f.init)&&a.methods.all fun m=>sB m.name&&(nB m.params.length&&(nB m.nodes.length&&((m.params.all fun q=>sB q.name)&&m.nodes.all fun x=>sB x.name&&(nB x.kids.length&&vB x.v)))))))
theorem I2 {s:LN}(h:sB s=true):HM s:=Nat.le_of_ble_eq_true h
theorem FE {n:Nat}(h:nB n=true):n<1048577:=Nat.le_of_ble_eq_true h
theorem afa {v:Va}(h:vB v=true):Ya v:=by
 unfold vB at h;simp only[lδ]at h;exact⟨FE h.1,FE h.2.1,I2 h.2.2⟩
theorem aej {a:Ac}(h:aB a=true):B5 a:=by
 unfold aB at h;simp only[lδ,mζ]at h;obtain⟨h1,h2,h3,h4,h5⟩:=h;exact⟨I2 h1,FE h2,FE h3,fun f hf=>⟨I2 (h4 f hf).1,afa (h4 f hf).2⟩,fun m hm=>⟨I2 (h5 m hm).1,FE (h5 m hm).2.1,FE (h5 m hm).2.2.1,fun q hq=>I2 ((h5 m hm).2.2.2.1 q hq),fun x hx=>⟨I2 ((h5 m hm).2.2.2.2 x hx).1,FE ((h5 m hm).2.2.2.2 x hx).2.1,afa ((h5 m hm).2.2.2.2 x hx).2.2⟩⟩⟩
theorem ahH:(p7 0).all aB=true:=by kernel_rfl
theorem ahI:(p7 1).all aB=true:=by kernel_rfl
theorem aee:∀a∈p7 0,B5 a:=fun a ha=>aej (mζ.1 ahH a ha)
theorem aef:∀a∈p7 1,B5 a:=fun a ha=>aej (mζ.1 ahI a ha)
theorem ahP (x y:Da):bx [x,y] 0=some x:=rfl
theorem ahQ (x y:Da):bx [x,y] 1=some y:=rfl
theorem ah2 (l m:LD)(K:eC→R):fo (.agg [.slice 3 l,.slice 2 m]) K=K ⟨l,m⟩:=rfl
end
end Go.Ab
end
section
namespace Go.Ab
open Go
set_option maxRecDepth 100000
noncomputable section
theorem take_set {α:Type}{f:α→Da}(l:List α)(i:Nat)(x:α){y:Da}(h:y=f x):List.take l.length ((l.map f).set i y)=(l.set i x).map f:=by
 subst h;rw[mθ (by simp),List.map_set]
theorem EC (t:Ac)(ms:List Me){X:LD}(h:X=ms.map Me.e):Da.agg (splice (cells (ae.e t.r)) 2 (cells (Da.slice 4 X)))=(Ac.mk t.name t.fields ms).e:=by subst h;rfl
theorem adI (m:Me)(s:LN):Da.agg (splice (cells (ah.e m.r)) 0 (cells (Da.str s)))=(Me.mk s m.params m.result m.nodes).e:=rfl
theorem adJ (m:Me)(ps:List Pa){X:LD}(h:X=ps.map Pa.e):Da.agg (splice (cells (ah.e m.r)) 1 (cells (Da.slice 2 X)))=(Me.mk m.name ps m.result m.nodes).e:=by subst h;rfl
theorem yw {p:List Ac}{K:Nat}(t:Ac){x:Da}(hx:x=t.e):(some (D.p (.agg [.slice 3 (List.take p.length (List.set (p.map Ac.e) K x))]),([]:List Ob)))=some (pD (p.set K t),[]):=by
 rw[take_set p K t hx]
abbrev MOk (m:Me):Prop:=HM m.name∧m.params.length<1048577∧m.nodes.length<1048577∧(∀q∈m.params,HM q.name)∧∀x∈m.nodes,HM x.name∧x.kids.length<1048577∧Ya x.v
theorem B5.ms {t:Ac}(h:B5 t){ms:List Me}(hl:ms.length<1048577)(hm:∀m∈ms,MOk m):B5 ⟨t.name,t.fields,ms⟩:=⟨h.nm,h.fl,hl,h.ff,hm⟩
theorem Gl {p:List Ac}(h:∀t∈p,B5 t){K:Nat}{t:Ac}(ht:B5 t):∀x∈p.set K t,B5 x:=fun x hx=>by
 rcases List.mem_or_eq_of_mem_set hx with hx|rfl
 ·exact h x hx
 ·exact ht
theorem UK {a:Int}(h:0≤a∧a<256){P:Nat}(hP:0<P):∃K:Nat,K<P∧Int.tmod (ag .i64 a) (P:Int)=(K:Int):=by
 rw[ig (by omega) (by omega),Int.tmod_eq_emod_of_nonneg h.1];refine⟨(a % (P:Int)).toNat,?_,?_⟩
 ·have:=Int.emod_lt_of_pos a (show(0:Int)<P by omega);have:=Int.emod_nonneg a (show(P:Int)≠0 by omega);omega
 ·have:=Int.emod_nonneg a (show(P:Int)≠0 by omega);omega
theorem XG {n:Nat}(p:List Ac)(h a b:Int)(ha:0≤a∧a<256)(hb:0≤b∧b<256)(hp:0<p.length)(hpl:p.length<1000)(hok:∀t∈p,B5 t)(hs:∀t∈p,t.methods.length<1000∧∀m∈t.methods,m.name.length<1000∧m.params.length<1000):
  ∃y:List Ac,evFn lay0.tab (n+1) 13 [pD p,.p (.int .u8 h),.p (.int .u8 a),.p (.int .u8 b)] []=some (pD y,[])∧∀t∈y,B5 t:=by
 obtain⟨K,hK,eK⟩:=UK ha hp;suffices hS:∃y:List Ac,rU (br lay0.tab n) n ⟨p.map Ac.e⟩ h a b=some (pD y,[])∧∀t∈y,B5 t by
  obtain⟨y,h1,h2⟩:=hS;exact⟨y,X5 n ⟨p.map Ac.e⟩ h a b _ h1,h2⟩
 have tm:p[K]∈p:=lι _;obtain⟨ml,hmm⟩:=hs _ tm;have tok:=hok _ tm;have eK':dU a (p.map Ac.e)=(K:Int):=by unfold dU;rw[lβ];exact eK
 generalize ht:p[K]=t at*
 have hg:(p.map Ac.e)[K]?=some t.e:=by rw[lχ,lγ hK,ht];rfl
 have b1:cR p.length 64=true:=jK (by omega) (by omega);have b2:cR t.methods.length 72=true:=jK (by omega) (by omega);have z1:av (p.length:Int) 0=false:=by rw[aW,mα];omega
 have f1:∀k:Nat,bm 0 (k:Int)=true:=fun k=>by rw[bE,lη];omega
 have f2:aX (K:Int) (p.length:Int)=true:=cG (by omega);have f3:bm (K:Int) (p.length:Int)=true:=by rw[bE,lη];omega
 have f4:∀k:Nat,bm (k:Int) (k:Int)=true:=fun k=>by rw[bE,lη];omega
 have f5:∀k:Nat,Nat.beq k k=true:=fun k=>Nat.beq_refl k
 have f6:ag .i64 ((K:Int)+1)=((K+1:Nat):Int):=wS (by unfold bT;omega);have f8:bm ((K+1:Nat):Int) (p.length:Int)=true:=by rw[bE,lη];omega
 have hM:t.r.Methods=t.methods.map Me.e:=rfl;by_cases hm0:t.methods.length=0
 ·refine⟨p,?_,hok⟩;have z2:av (t.methods.length:Int) 0=true:=by rw[hm0];rfl
  simp only[rU,List.nil_append,lβ,List.length_nil,Nat.zero_add,eK',b1,z1,aO,aR,f1,f2,Int.toNat_natCast,hg,bf,GZ,hM,b2,z2];rfl
 have z2:av (t.methods.length:Int) 0=false:=by rw[aW,mα];omega
 obtain⟨J,hJ,eJ⟩:=UK hb (show 0<t.methods.length by omega);have eJ':dU b (t.methods.map Me.e)=(J:Int):=by unfold dU;rw[lβ];exact eJ
 have jm:t.methods[J]∈t.methods:=lι _;obtain⟨nl,pl⟩:=hmm _ jm;have mok:=tok.mm _ jm;generalize hjm:t.methods[J]=m at*
 have hj:(t.methods.map Me.e)[J]?=some m.e:=by rw[lχ,lγ hJ,hjm];rfl
 have g2:aX (J:Int) (t.methods.length:Int)=true:=cG (by omega);have g3:bm (J:Int) (t.methods.length:Int)=true:=by rw[bE,lη];omega
 have g6:ag .i64 ((J:Int)+1)=((J+1:Nat):Int):=wS (by unfold bT;omega);have g8:bm ((J+1:Nat):Int) (t.methods.length:Int)=true:=by rw[bE,lη];omega
 have b3:cR m.params.length 24=true:=jK (by omega) (by omega);have b4:cR (m.params.length+1) 24=true:=jK (by omega) (by omega);have b5:∀l r:LD,l.length<2000→r.length<2000→cR (l.length+r.length) 72=true:=fun l r h1 h2=>jK (by omega) (by omega)
 have w1:Nat.ble (m.name.length+1) kR=true:=by unfold kR;rw[Nat.ble_eq];omega
 have mem_take:∀(k:Nat),∀x∈t.methods.take k,MOk x:=fun k x hx=>tok.mm x (mσ hx)
 have b6:cR (List.length (List.take J (t.methods.map Me.e))+List.length (List.take (t.methods.length - (J+1)) (List.drop (J+1) (t.methods.map Me.e)))) 72=true:=jK (by simp;omega) (by omega);have b7:cR (List.length (List.take K (p.map Ac.e))+List.length (List.take (p.length - (K+1)) (List.drop (K+1) (p.map Ac.e)))) 64=true:=jK (by simp;omega) (by omega);simp only[rU,List.nil_append,lβ,List.length_nil,List.length_cons,Nat.zero_add,Nat.sub_zero,List.drop_zero,List.take_length,eK',b1,z1,aO,aR,f1,f2,f3,f4,f5,f6,f8,Int.toNat_natCast,hg,bf,GZ,hM,b2,z2,eJ',hj,QB,g2,g3,g6,g8,b6,b7,show m.r.Name=m.name from rfl,show m.r.Params=m.params.map Pa.e from rfl,b3,b4,w1];cases av (Int.tmod h 5) 0
 ·cases av (Int.tmod h 5) 1
  ·cases av (Int.tmod h 5) 2
   ·cases av (Int.tmod h 5) 3
    ·simp only[aR];refine⟨p.set K ⟨t.name,t.fields,t.methods⟩,yw _ (EC t t.methods rfl),Gl hok tok⟩
    ·simp only[aR,aO];cases(!List.isEmpty (List.take K (p.map Ac.e))&&List.isEmpty (List.take (p.length - (K+1)) (List.drop (K+1) (p.map Ac.e))))
     ·refine⟨p.take K++(p.drop (K+1)).take (p.length - (K+1)),?_,fun x hx=>?_⟩
      ·simp only[aR,pD,List.map_append,List.map_take,List.map_drop]
      ·rcases mρ.1 hx with hx|hx
       ·exact hok x (mσ hx)
       ·exact hok x (mξ (mσ hx))
     ·refine⟨p.take K,?_,fun x hx=>hok x (mσ hx)⟩
      simp only[aO,pD,List.map_take]
   ·simp only[aR,aO];have hX:m.params.map Pa.e++[Da.agg [Da.str [101,120,116,114,97],Da.int .i64 1]]=(m.params++[Pa.mk [101,120,116,114,97] 1]).map Pa.e:=by rw[List.map_append];rfl
    refine⟨p.set K ⟨t.name,t.fields,t.methods.set J ⟨m.name,m.params++[Pa.mk [101,120,116,114,97] 1],m.result,m.nodes⟩⟩,yw _ (EC t _ (take_set t.methods J _ (adJ m _ hX))),Gl hok (tok.ms (by simp;omega) fun x hx=>?_)⟩;rcases List.mem_or_eq_of_mem_set hx with hx|rfl
    ·exact tok.mm x hx
    ·refine⟨mok.1,by simp;omega,mok.2.2.1,fun q hq=>?_,mok.2.2.2.2⟩
     rcases mρ.1 hq with hq|hq
     ·exact mok.2.2.2.1 q hq
     ·simp only[List.mem_singleton]at hq;subst hq;show(5:Nat)<_;omega
  ·simp only[aR,aO];refine⟨p.set K ⟨t.name,t.fields,t.methods.set J ⟨m.name++[120],m.params,m.result,m.nodes⟩⟩,yw _ (EC t _ (take_set t.methods J _ (adI m _))),Gl hok (tok.ms (by simp;omega) fun x hx=>?_)⟩;rcases List.mem_or_eq_of_mem_set hx with hx|rfl
   ·exact tok.mm x hx
   ·exact⟨by show(m.name++[120]).length<_;simp;omega,mok.2.1,mok.2.2.1,mok.2.2.2.1,mok.2.2.2.2⟩
 ·simp only[aR,aO];cases(!List.isEmpty (List.take J (t.methods.map Me.e))&&List.isEmpty (List.take (t.methods.length - (J+1)) (List.drop (J+1) (t.methods.map Me.e))))
  ·simp only[aR];refine⟨p.set K ⟨t.name,t.fields,t.methods.take J++(t.methods.drop (J+1)).take (t.methods.length - (J+1))⟩,yw _ (EC t _ (by simp only[List.map_append,List.map_take,List.map_drop])),Gl hok (tok.ms (by simp;omega) fun x hx=>?_)⟩;rcases mρ.1 hx with hx|hx
   ·exact mem_take J x hx
   ·exact tok.mm x (mξ (mσ hx))
  ·simp only[aO];exact⟨p.set K ⟨t.name,t.fields,t.methods.take J⟩,yw _ (EC t _ (by simp only[List.map_take])),Gl hok (tok.ms (by simp;omega) (mem_take J))⟩
def smB (p:List Ac):Bool:=Nat.blt 0 p.length&&(Nat.blt p.length 1000&&p.all fun t=>Nat.blt t.methods.length 1000&&t.methods.all fun m=>Nat.blt m.name.length 1000&&Nat.blt m.params.length 1000)
theorem ahB {p:List Ac}(h:smB p=true):0<p.length∧p.length<1000∧∀t∈p,t.methods.length<1000∧∀m∈t.methods,m.name.length<1000∧m.params.length<1000:=by
 unfold smB at h;simp only[lδ,mζ]at h;exact⟨Nat.le_of_ble_eq_true h.1,Nat.le_of_ble_eq_true h.2.1,fun t ht=>⟨Nat.le_of_ble_eq_true (h.2.2 t ht).1,fun m hm=>⟨Nat.le_of_ble_eq_true ((h.2.2 t ht).2 m hm).1,Nat.le_of_ble_eq_true ((h.2.2 t ht).2 m hm).2⟩⟩⟩
theorem ahJ:smB (p7 0)=true:=by kernel_rfl
theorem ahK:smB (p7 1)=true:=by kernel_rfl
theorem ahL:RZ (p7 0) (p7 0)=true:=by kernel_rfl
theorem ahM:RZ (p7 1) (p7 1)=true:=by kernel_rfl
theorem ah1 (l:LD)(K:aa→R):hZ (.agg [.slice 3 l]) K=K ⟨l⟩:=rfl
theorem Jb {n:Nat}(p:List Ac)(a b h c d:Int)(hb:∀x∈p,B5 x)(ha:0≤a∧a<256)(hb':0≤b∧b<256)(hc:0≤c∧c<256)(hd:0≤d∧d<256)(hn:9223372036854775808≤n)(hm:n+9000≤200000000000000000000):evFn lay0.tab (n+9014) 4 [pD p,.p (.int .u8 a),.p (.int .u8 b),.p (.int .u8 h),.p (.int .u8 c),.p (.int .u8 d)] []=some (.p (.bool true),[]):=by
 apply JU (n+9013) ⟨p.map Ac.e⟩ a b h c d;have h1:=ab (UW (n:=n+9012));have h2:=ab (afe (n:=n+9012));have k1:=fun(x y:List Ac) (hx:∀a∈x,B5 a) (hy:∀a∈y,B5 a)=>ab (QQ (n:=n+1) (c:=1048577) x y (fun a ha=>(hx a ha).z) (fun a ha=>(hy a ha).z) (by omega))
 have k2:=fun(x y:List Ac) (hx:∀a∈x,B5 a) (hy:∀a∈y,B5 a)=>ab (Jg (n:=n+4501) (c:=1048577) x y (fun a ha=>(hx a ha).z) (fun a ha=>(hy a ha).z) (by omega) (by omega) (fun a ha=>(hx a ha).s.mono (by omega)) (fun a ha=>(hy a ha).s.mono (by omega)) (by omega))
 have hv:∀w:Int,0≤w∧w<256→∃m,(∀a∈p7 m,B5 a)∧smB (p7 m)=true∧RZ (p7 m) (p7 m)=true∧bx [Da.agg [.slice 3 ((p7 0).map Ac.e),.slice 2 (abx 0)],.agg [.slice 3 ((p7 1).map Ac.e),.slice 2 (abx 1)]] (Int.tmod w 2)=some (.agg [.slice 3 ((p7 m).map Ac.e),.slice 2 (abx m)]):=by
  intro w hw;rw[Int.tmod_eq_emod_of_nonneg hw.1];rcases Int.emod_two_eq w with h|h
  ·rw[h];exact⟨0,aee,ahJ,ahL,ahP _ _⟩
  ·rw[h];exact⟨1,aef,ahK,ahM,ahQ _ _⟩
 obtain⟨i,vi,_,xi,hi⟩:=hv a ha;obtain⟨j,vj,sj,_,hj⟩:=hv b hb';obtain⟨q1,q2,q3⟩:=ahB sj;obtain⟨y,hy,yok⟩:=XG (n:=n+9012) (p7 j) h c d hc hd q1 q2 vj q3;have h3:=ab hy;unfold qg;rw[show((D.p (aa.e ⟨p.map Ac.e⟩)))=pD p from rfl];simp only[h1,ba,aD,aC,Bool.not_true,aR,lβ];cases aX 5 (p.length:Int)
 ·simp only[aR,h2,ba,TC,aC,hi,hj,bf,ah2,h3,ah1,WU,k1 _ _ vi yok,k2 _ _ vi yok,k1 _ _ yok vi,k2 _ _ yok vi,k1 _ _ hb vi,k2 _ _ hb vi,k1 _ _ vi vi,aD,beq_self_eq_true,aO,xi]
 ·rfl
end
end Go.Ab
end
section
namespace Go.Ab
open Go
set_option maxRecDepth 100000
noncomputable section
theorem call0_ok (L:Letters)(N:Nat):dV prog0 globs0 (evFn lay0.tab N):=xK (P:=prog0) (G:=globs0) AQ (lay0.okM L mvG) N
theorem aie:AC prog0 .u8 5=true:=by kernel_rfl
theorem ZN {n:Nat}{x:Da}(h:DT (n+1) 5 x):∃i,x= .int .u8 i∧0≤i∧i<256:=by
 obtain⟨s,e,hw⟩:=tL aie (TD aie h);simp only[lμ,and_true]at e;simp only[Lit.wf,lδ,lη]at hw;have h1:IntKind.u8.min=0:=rfl;have h2:IntKind.u8.max=255:=rfl;rw[h1,h2]at hw;exact⟨s,e,by omega,by omega⟩
theorem run_SchemaExtends:∀xs,Pw (lO prog0 (ck prog0 Bn 12)) [24,5,5,5,5,5] xs→∃N,evFn lay0.tab N 4 (xs.map .p) []=some (.p (.bool true),[]):=by
 intro xs h;obtain⟨x1,r1,rfl,h1,h⟩:=h.cons_inv;obtain⟨x2,r2,rfl,h2,h⟩:=h.cons_inv;obtain⟨x3,r3,rfl,h3,h⟩:=h.cons_inv;obtain⟨x4,r4,rfl,h4,h⟩:=h.cons_inv;obtain⟨x5,r5,rfl,h5,h⟩:=h.cons_inv;obtain⟨x6,r6,rfl,h6,h⟩:=h.cons_inv;obtain rfl:=h.nil_inv;obtain⟨p,hp,hl,hb⟩:=agF (n:=2) h1;obtain⟨a,rfl,ha⟩:=ZN (n:=11) h2;obtain⟨b,rfl,hb'⟩:=ZN (n:=11) h3;obtain⟨w,rfl,hw⟩:=ZN (n:=11) h4;obtain⟨c,rfl,hc⟩:=ZN (n:=11) h5;obtain⟨d,rfl,hd⟩:=ZN (n:=11) h6;refine⟨9223372036854775808+9014,?_⟩;show evFn _ _ _ [.p x1,.p (.int .u8 a),.p (.int .u8 b),.p (.int .u8 w),.p (.int .u8 c),.p (.int .u8 d)] []=_;rw[hp];exact Jb (n:=9223372036854775808) p a b w c d hb ha hb' hc hd (by omega) (by omega)
end
end Go.Ab
end
