import Derived.Test.YtlfhmmbmjkadiaaGreatDoorKg2
import Derived.Test.YtlfhmmbmjkadiaaGreatDoorKg0
import Derived.Test.YtlfhmmbmjkadiaaGreatDoorOg3
set_option linter.all false
section
namespace Go.Ab
open Go
noncomputable section
structure Bf (r:RS):Prop where
 tr:Tr r.m.nodes r.par
 ok:FE r
 kv:∀x∈r.m.nodes,ci r.m.nodes x=true
 bn:∀x∈r.m.nodes,x.op=5→(binO.any fun t=>aK x.name t)=true
 r18:cE r.m.nodes ((r.m.nodes.length - 1:Nat):Int)=18
theorem Bf.put {r:RS}(h:Bf r)(i:Nat)(k:Int):Bf (r.put i k):=⟨h.tr,h.ok.put i k,h.kv,h.bn,h.r18⟩
theorem Zv {ns:List No}{x:No}(h:ci ns x=true):1≤x.op∧x.op≤18:=by
 unfold ci at h;simp only[aT]at h;refine Classical.byContradiction fun g=>?_
 have e:∀n:Int,1≤n→n≤18→decide (x.op=n)=false:=fun n h1 h2=>mα fun e=>g (by omega)
 simp only[e _ (show(1:Int)≤1 by omega) (by omega),e 2 (by omega) (by omega),e 3 (by omega) (by omega),e 4 (by omega) (by omega),e 5 (by omega) (by omega),e 6 (by omega) (by omega),e 7 (by omega) (by omega),e 8 (by omega) (by omega),e 9 (by omega) (by omega),e 10 (by omega) (by omega),e 11 (by omega) (by omega),e 12 (by omega) (by omega),e 13 (by omega) (by omega),e 14 (by omega) (by omega),e 15 (by omega) (by omega),e 16 (by omega) (by omega),e 17 (by omega) (by omega),e 18 (by omega) (by omega),cond_false]at h;cases h
theorem Zu {ns:List No}{x:No}(h:ci ns x=true){k:Int}(hk:k∈x.kids):(x.op=18→cE ns k≠18)∧(x.op≠18→cE ns k≠8):=by
 have all0:∀f,dE ns x 0 f=true→f (cE ns k)=true:=fun f hf=>by
  unfold dE at hf;rw[List.drop_zero,mη]at hf;exact hf k hk
 have hif:∀n,Np ns x n=true→cE ns k≠8:=fun n hf=>by
  unfold Np dE at hf;simp only[lδ,mη]at hf;cases hx:x.kids with
  |nil=>rw[hx]at hk;cases hk
  |cons y t=>
   rw[hx]at hk hf;rcases mγ.1 hk with rfl|hk
   ·have:=hf.2.1;simp only[List.headD_cons,dU,bJ,lδ,lη]at this;omega
   ·have:=hf.2.2 k (by simpa using hk);simp only[DI,aT,lη]at this;omega
 have hc:ef x 0 0=true→False:=fun g=>by
  unfold ef at g;simp only[lδ,bJ,lη]at g;have:=List.length_pos_of_mem hk;omega
 have r:=Zv h;have hop:x.op=1∨x.op=2∨x.op=3∨x.op=4∨x.op=5∨x.op=6∨x.op=7∨x.op=8∨x.op=9∨x.op=10∨x.op=11∨x.op=12∨x.op=13∨x.op=14∨x.op=15∨x.op=16∨x.op=17∨x.op=18:=by omega
 unfold ci at h;rcases hop with o|o|o|o|o|o|o|o|o|o|o|o|o|o|o|o|o|o<;>(simp only[o,aT,Int.reduceEq,decide_false,decide_true,cond_true,cond_false,lδ]at h);all_goals first
  |exact(hc h).elim
  |exact⟨fun e=>by omega,fun _=>hif _ h⟩
  |(
    have:=all0 _ h.2;simp only[dU,se,zh,bJ,aT,lδ,mψ,lη]at this;exact⟨fun e=>by omega,fun _=>by omega⟩)
  |(
    have:=all0 _ h;simp only[BZ,bJ,lδ,lη]at this;exact⟨fun _=>by omega,fun e=>by omega⟩)
theorem pf {ns:List No}{i:Nat}{x:No}(h:ns[i]?=some x):cE ns (i:Int)=x.op:=by unfold cE;rw[nU,h];rfl
theorem Bf.letp {r:RS}(h:Bf r){j b:Nat}{x y:No}(hx:r.m.nodes[j]?=some x)(h8:x.op=8)(hy:r.m.nodes[b]?=some y)(hb:y.op≠18):r.par.getD j 0≠(b:Int):=fun e=>by
 obtain⟨z,hz,hm⟩:=h.tr.p2 j b (Eb hx) e;rw[hy]at hz;simp only[lα]at hz;subst hz;have:=(Zu (h.kv _ (mζ hy)) hm).2 hb;rw[pf hx]at this;exact this h8
theorem Bf.up {r:RS}(h:Bf r){i:Nat}{x:No}(hx:r.m.nodes[i]?=some x)(h18:x.op≠18):(i:Int)<r.par.getD i 0:=by
 obtain⟨k,hs,hk,_⟩:=h.tr.root;have hi:=Eb hx;have hne:i≠k:=fun e=>by
  subst e;have:=h.r18;rw[show r.m.nodes.length - 1=i by omega,pf hx]at this;exact h18 this
 exact(h.tr.sub_in hs (Nat.zero_le _) (show i<k by omega)).1
def Pv (r:RS)(b:Nat)(s:List Nat):Option Vr:=match r.m.params.findIdx? fun f=>aK f.name s with
 |some j=>r.m.params[j]?.map fun f=>⟨f.kind,j,false⟩
 |none=>Ps (sgt r.par b) s r.m.nodes 0 r.m.params.length
def Wh (r:RS)(s:List Nat):Option Vr:=match r.a.fields.findIdx? fun f=>aK f.name s with
 |some j=>r.a.fields[j]?.map fun f=>⟨f.kind,j,true⟩
 |none=>none
def kiM (r:RS)(b:Nat)(i:Int):Option Int:=match jI r.m.nodes i with
 |some x=>if i<(b:Int)∧x.op≤7 then r.ks[i.toNat]? else none
 |none=>none
def vaM (r:RS)(b:Nat)(i:Int):Option Vr:=match jI r.m.nodes i with
 |some x=>if i<(b:Int)∧(x.op=2∨x.op=8∨x.op=9)then sq r.a r.m r.par i.toNat x.name else none
 |none=>none
structure IF (c:CS)(r:RS)(b:Nat):Prop where
 er:c.er=0
 ns:c.ns=r.m.nodes
 pr:c.pr=r.p
 re:c.re=r.m.result
 fs:∀s,cY c.fs s=Wh r s
 ki:∀i,rY c.ki i=kiM r b i
 va:∀i,rY c.va i=vaM r b i
 lo:c.lo=r.m.params++ug (r.m.nodes.take b)
 l8:c.lo.length≤8
 le:∀s,cY c.le s=if((r.m.params.any fun f=>aK f.name s)||m9 (r.m.nodes.take b) s)=true then some true else none
 sc:∀s,cY c.sc s=Pv r b s
theorem aal {ns:List No}{i:Nat}{x:No}(hx:ns[i]?=some x):ns.take (i+1)=ns.take i++[x]:=by
 rw[List.take_add_one,hx];rfl
theorem JV {ns:List No}{i:Nat}{x:No}(hx:ns[i]?=some x):ug (ns.take (i+1))=ug (ns.take i)++if x.op=8 then[⟨x.name,x.v.k⟩]else[]:=by
 rw[aal hx];unfold ug;rw[List.filter_append,List.map_append];by_cases h:x.op=8<;>simp[h]
theorem Q5 {ns:List No}{i:Nat}{x:No}(hx:ns[i]?=some x)(s:List Nat):m9 (ns.take (i+1)) s=(m9 (ns.take i) s||(decide (x.op=8)&&aK x.name s)):=by
 rw[aal hx];unfold m9;rw[List.any_append];simp
theorem Hl (l:List No):(ug l).length=nb l:=by unfold ug nb;simp
theorem adQ {r:RS}(hl:r.ks.length=r.m.nodes.length){i:Nat}{x:No}(hx:r.m.nodes[i]?=some x)(k j:Int):kiM (r.put i k) (i+1) j=if x.op≤7∧j=(i:Int)then some k else kiM r i j:=by
 unfold kiM RS.put;have hi:=Eb hx;by_cases hj:j=(i:Int)
 ·subst hj;simp only[nU,hx,Int.toNat_natCast];by_cases h7:x.op≤7
  ·rw[if_pos ⟨by omega,h7⟩,if_pos ⟨h7,trivial⟩,qγ (by omega)]
  ·rw[if_neg (fun g=>h7 g.2),if_neg (fun g=>h7 g.1),if_neg (fun g=>h7 g.2)]
 ·rw[if_neg (fun g=>hj g.2)];cases ha:jI r.m.nodes j with
  |none=>rfl
  |some y=>
   obtain⟨q,rfl,_⟩:=B8 ha;have hne:i≠q:=fun e=>hj (by rw[e])
   simp only[Int.toNat_natCast,mυ hne];by_cases g:(q:Int)<(i:Int)∧y.op≤7
   ·rw[if_pos g,if_pos ⟨by omega,g.2⟩]
   ·rw[if_neg g,if_neg (fun e=>g ⟨by omega,e.2⟩)]
theorem Pj {r:RS}{i:Nat}{x:No}(hx:r.m.nodes[i]?=some x)(k j:Int):vaM (r.put i k) (i+1) j=if(x.op=2∨x.op=8∨x.op=9)∧j=(i:Int)then sq r.a r.m r.par i x.name else vaM r i j:=by
 unfold vaM RS.put;by_cases hj:j=(i:Int)
 ·subst hj;simp only[nU,hx,Int.toNat_natCast];by_cases h7:x.op=2∨x.op=8∨x.op=9
  ·rw[if_pos ⟨by omega,h7⟩,if_pos ⟨h7,trivial⟩]
  ·rw[if_neg (fun g=>h7 g.2),if_neg (fun g=>h7 g.1),if_neg (fun g=>h7 g.2)]
 ·rw[if_neg (fun g=>hj g.2)];cases ha:jI r.m.nodes j with
  |none=>rfl
  |some y=>
   obtain⟨q,rfl,_⟩:=B8 ha;have hne:i≠q:=fun e=>hj (by rw[e])
   simp only[Int.toNat_natCast];by_cases g:(q:Int)<(i:Int)∧(y.op=2∨y.op=8∨y.op=9)
   ·rw[if_pos g,if_pos ⟨by omega,g.2⟩]
   ·rw[if_neg g,if_neg (fun e=>g ⟨by omega,e.2⟩)]
theorem adY {r:RS}(h:Bf r){i:Nat}{x:No}(hx:r.m.nodes[i]?=some x)(h18:x.op≠18){s:List Nat}(h8:x.op=8→x.name≠s):Pv r (i+1) s=Pv r i s:=by
 unfold Pv;split
 ·rfl
 ·refine sZ _ _ _ fun j y hy o hn=>?_
  rw[Nat.zero_add];have hp:=h.letp hy o hx h18;unfold sgt;by_cases e:j=i
  ·subst e;rw[hx]at hy;simp only[lα]at hy;subst hy;exact absurd hn (h8 o)
  ·rw[show decide (j<i+1)=decide (j<i)from decide_eq_decide.2 ⟨fun _=>by omega,fun _=>by omega⟩,show decide (((i+1:Nat):Int)≤r.par.getD j 0)=decide ((i:Int)≤r.par.getD j 0)from decide_eq_decide.2 ⟨fun _=>by omega,fun _=>by omega⟩]
theorem D4 {c:CS}{r:RS}{i:Nat}(h:Bf r)(hm:IF c r i){x:No}(hx:r.m.nodes[i]?=some x)(h18:x.op≠18)(h8:x.op≠8)(s:List Nat):oZ c s=sq r.a r.m r.par i s:=by
 unfold oZ sq;rw[hm.fs,hm.sc];unfold Wh;cases hf:r.a.fields.findIdx? fun f=>aK f.name s with
 |some j=>
  have hj:=(lυ.1 hf).1;simp only[lγ hj,Option.map_some]
 |none=>
  unfold Pv;simp only;cases r.m.params.findIdx? fun f=>aK f.name s with
  |some j=>rfl
  |none=>
   simp only;unfold HI;rw[KD];refine sZ _ _ _ fun j y hy o hn=>?_
   rw[Nat.zero_add];have hp:=h.letp hy o hx h18;have hne:j≠i:=fun e=>by
    subst e;rw[hx]at hy;simp only[lα]at hy;subst hy;exact h8 o
   unfold sgt atP;rw[mα hne,Bool.false_or,show decide (j≤i)=decide (j<i)from decide_eq_decide.2 ⟨fun _=>by omega,fun _=>by omega⟩,show decide ((i:Int)≤r.par.getD j 0)=decide ((i:Int)<r.par.getD j 0)from decide_eq_decide.2 ⟨fun _=>by omega,fun _=>by omega⟩]
theorem wQ {α:Type}{l:List α}{f:α→Bool}(h:l.any f=false):l.findIdx? f=none:=by
 rw[mτ];intro x hx;rw[qθ]at h;simpa using h x hx
theorem afD {r:RS}(h:Bf r){i:Nat}{x:No}(hx:r.m.nodes[i]?=some x)(h8:x.op=8)(hl:m9 (r.m.nodes.take i) x.name=false)(hp:(r.m.params.any fun f=>aK f.name x.name)=false)(hf:(r.a.fields.any fun f=>aK f.name x.name)=false):
  sq r.a r.m r.par i x.name=some ⟨x.v.k,((r.m.params.length+nb (r.m.nodes.take i):Nat):Int),false⟩∧Pv r (i+1) x.name=some ⟨x.v.k,((r.m.params.length+nb (r.m.nodes.take i):Nat):Int),false⟩:=by
 have hi:=Eb hx;have hsp:r.m.nodes=r.m.nodes.take i++x::r.m.nodes.drop (i+1):=by
  have:=List.take_append_drop i r.m.nodes;rw[lξ hi]at this;rw[lγ hi]at hx;simp only[lα]at hx;rw[hx]at this;exact this.symm
 have hlen:(r.m.nodes.take i).length=i:=by simp;omega
 have hup:=h.up hx (by omega);constructor
 ·unfold sq HI;rw[wQ hf,wQ hp];simp only;rw[KD,hsp];have:=Jh (P:=atP r.par i) (s:=x.name) (r.m.nodes.drop (i+1)) h8 rfl (r.m.nodes.take i) 0 r.m.params.length hl (by rw[hlen,Nat.zero_add];unfold atP;simp);rw[this,←hsp]
 ·unfold Pv;rw[wQ hp];simp only;have:=Jh (P:=sgt r.par (i+1)) (s:=x.name) (r.m.nodes.drop (i+1)) h8 rfl (r.m.nodes.take i) 0 r.m.params.length hl (by rw[hlen,Nat.zero_add];unfold sgt;rw[mε (show i<i+1 by omega),mε (show(((i+1:Nat):Int))≤r.par.getD i 0 by omega)];rfl)
  rw[←hsp]at this;exact this
end
end Go.Ab
end
section
namespace Go.Ab
open Go
noncomputable section
theorem J1 {c c2:CS}{r:RS}{i:Nat}{x:No}(h:Bf r)(hm:IF c r i)(hx:r.m.nodes[i]?=some x)(h18:x.op≠18)(k:Int)(e1:c2.er=0)(hst:eX c c2)(eki:c2.ki=c.ki)
  (hva:∀j,rY c2.va j=vaM (r.put i k) (i+1) j) (hlo:c2.lo=r.m.params++ug (r.m.nodes.take (i+1))) (hl8:c2.lo.length≤8)
  (hle:∀s,cY c2.le s=if((r.m.params.any fun f=>aK f.name s)||m9 (r.m.nodes.take (i+1)) s)=true then some true else none) (hsc:∀s,cY c2.sc s=Pv r (i+1) s):IF (iA c2 i x k) (r.put i k) (i+1):=by
 obtain⟨n1,n2,n3,n4⟩:=VJ c2 i x k;have hs2:=hst.trans (Hv c2 i x k);refine⟨by rw[Ck];exact e1,hs2.ns.trans hm.ns,hs2.pr.trans hm.pr,hs2.re.trans hm.re,fun s=>by rw[hs2.fs];exact hm.fs s,fun j=>?_,fun j=>by rw[n1];exact hva j,by rw[n3];exact hlo,by rw[n3];exact hl8,fun s=>?_,fun s=>by rw[n2];exact hsc s⟩
 ·rw[ack,eki,adQ h.ok.sl hx,hm.ki]
 ·have:(iA c2 i x k).le=c2.le:=by unfold iA;split<;>rfl
  rw[this];exact hle s
theorem letR_t {r:RS}{i:Nat}{x:No}{kk:List Int}:Q6 r i x kk=true↔(m9 (r.m.nodes.take i) x.name=false∧(r.a.fields.any fun f=>aK f.name x.name)=false∧(r.m.params.any fun f=>aK f.name x.name)=false∧nb (r.m.nodes.take i)+1+r.m.params.length≤8∧kk.headD 0=x.v.k):=by
 unfold Q6;simp only[lδ,Bool.not_eq_true',lη]
theorem ahh {c c2:CS}{r:RS}{i:Nat}{x:No}{kl:List Int}{k:Int}(h:Bf r)(hm:IF c r i)(hx:r.m.nodes[i]?=some x)(h18:x.op≠18)(ho:OpR c i x kl k c2)(hlet:x.op=8→Q6 r i x kl=true):IF (iA c2 i x k) (r.put i k) (i+1):=by
 have va0:(x.op≠2∧x.op≠8∧x.op≠9)→∀j,rY c.va j=vaM (r.put i k) (i+1) j:=fun g j=>by
  rw[Pj hx,if_neg (fun e=>by rcases e.1 with e|e|e;exact g.1 e;exact g.2.1 e;exact g.2.2 e),hm.va]
 have lo0:x.op≠8→c.lo=r.m.params++ug (r.m.nodes.take (i+1)):=fun g=>by rw[JV hx,if_neg g,mθ];exact hm.lo
 have le0:x.op≠8→∀s,cY c.le s=if((r.m.params.any fun f=>aK f.name s)||m9 (r.m.nodes.take (i+1)) s)=true then some true else none:=fun g s=>by
  rw[Q5 hx,mα g,Bool.false_and,Bool.or_false];exact hm.le s
 have sc0:x.op≠8→∀s,cY c.sc s=Pv r (i+1) s:=fun g s=>by rw[adY h hx h18 (fun e=>absurd e g)];exact hm.sc s
 cases ho with
 |same h2 h8 h9=>exact J1 h hm hx h18 k hm.er (eX.refl _) rfl (va0 ⟨h2,h8,h9⟩) (lo0 h8) hm.l8 (le0 h8) (sc0 h8)
 | @var v h2 hf=>
  have h8:x.op≠8:=by omega
  rw[D4 h hm hx h18 h8]at hf;refine J1 (c2:={c with va:=so c.va i v}) h hm hx h18 v.kind hm.er ⟨rfl,rfl,rfl,rfl⟩ rfl (fun j=>?_) (lo0 h8) hm.l8 (le0 h8) (sc0 h8);show rY (so c.va i v) j=_;rw[wU,Pj hx,hm.va,hf];by_cases e:j=(i:Int)
  ·rw[if_pos e,if_pos ⟨.inl h2,e⟩]
  ·rw[if_neg e,if_neg (fun g=>e g.2)]
 | @asg v rr h9 hks hf=>
  have h8:x.op≠8:=by omega
  rw[D4 h hm hx h18 h8]at hf;refine J1 (c2:={c with va:=so c.va i v}) h hm hx h18 0 hm.er ⟨rfl,rfl,rfl,rfl⟩ rfl (fun j=>?_) (lo0 h8) hm.l8 (le0 h8) (sc0 h8);show rY (so c.va i v) j=_;rw[wU,Pj hx,hm.va,hf];by_cases e:j=(i:Int)
  ·rw[if_pos e,if_pos ⟨.inr (.inr h9),e⟩]
  ·rw[if_neg e,if_neg (fun g=>e g.2)]
 | @lett y rr h8 hks=>
  obtain⟨g1,g2,g3,g4,g5⟩:=letR_t.1 (hlet h8);rw[hks]at g5;simp only[List.headD_cons]at g5;subst g5;obtain⟨v1,v2⟩:=afD h hx h8 g1 g3 g2;have hlen:(c.lo.length:Int)=((r.m.params.length+nb (r.m.nodes.take i):Nat):Int):=by rw[hm.lo,mξ,Hl]
  have hl2:c.lo.length=r.m.params.length+nb (r.m.nodes.take i):=by omega
  rw[←hlen]at v1 v2;refine J1 (c2:={c with sc:=ne c.sc x.name ⟨x.v.k,c.lo.length,false⟩,le:=ne c.le x.name true,lo:=c.lo++[⟨x.name,x.v.k⟩],va:=so c.va i ⟨x.v.k,c.lo.length,false⟩}) h hm hx h18 0 hm.er ⟨rfl,rfl,rfl,rfl⟩ rfl (fun j=>?_) ?_ ?_ (fun s=>?_) (fun s=>?_)
  ·show rY (so c.va i _) j=_;rw[wU,Pj hx,hm.va,v1];by_cases e:j=(i:Int)
   ·rw[if_pos e,if_pos ⟨.inr (.inl h8),e⟩]
   ·rw[if_neg e,if_neg (fun g=>e g.2)]
  ·show c.lo++_=_;rw[JV hx,if_pos h8,hm.lo,mν]
  ·show(c.lo++[(⟨x.name,x.v.k⟩:Pa)]).length≤8;simp only[mξ,List.length_singleton];omega
  ·show cY (ne c.le x.name true) s=_;rw[mN,Q5 hx,hm.le,mε h8,Bool.true_and,dn];by_cases e:s=x.name
   ·subst e;simp
   ·rw[if_neg e,mα (fun g=>e g.symm),Bool.or_false]
  ·show cY (ne c.sc x.name _) s=_;rw[mN];by_cases e:s=x.name
   ·subst e;rw[if_pos rfl,v2]
   ·rw[if_neg e,hm.sc,adY h hx h18 (fun _ g=>e g.symm)]
def NR (c:CS)(k:Int)(o:Option Int):Prop:=(c.er=0∧o=some k)∨(c.er≠0∧o=none)
theorem jC {c:CS}{i k:Int}{b:Bool}{o:Option Int}(hc:c.er=0)(ht:b=true→o=some k)(hf:b=false→o=none):NR (cj c i b) k o:=by
 cases b with
 |true=>exact .inl ⟨hc,ht rfl⟩
 |false=>exact .inr ⟨fun e=>absurd (sJ e) (by simp),hf rfl⟩
theorem aet (s:List Nat)(x y:Int)(h:(DH s x y).2=true):¬(DH s x y).1<0:=by
 unfold DH at h ⊢
 simp only[Bool.cond_eq_ite]at h ⊢
 repeat' split
 all_goals first
  |(simp;done)
  |(simp_all [aT];omega)
theorem ae2 {c:CS}{r:RS}{i:Nat}(hm:IF c r i)(s:List Nat):zp c s=((r.a.fields.any fun f=>aK f.name s)||((r.m.params.any fun f=>aK f.name s)||m9 (r.m.nodes.take i) s)):=by
 unfold zp;rw[hm.fs,hm.le];unfold Wh;cases hf:r.a.fields.findIdx? fun f=>aK f.name s with
 |some j=>
  have hj:=lυ.1 hf;obtain⟨h1,h2,_⟩:=hj;have:(r.a.fields.any fun f=>aK f.name s)=true:=qν.2 ⟨_,lι h1,h2⟩;rw[this];simp only[lγ h1,Option.map_some,Bool.true_or]
 |none=>
  have:(r.a.fields.any fun f=>aK f.name s)=false:=by
   rw[qθ];intro x hx;have:=mτ.1 hf x hx;simp[this]
  rw[this,Bool.false_or];cases(r.m.params.any fun f=>aK f.name s)||m9 (r.m.nodes.take i) s<;>rfl
theorem afO {c c2:CS}{r:RS}{i:Nat}{x:No}{y:Int}{t:List Int}(hm:IF c r i)(h8:x.op=8)(ho:xi c i x y=some c2):NR c2 0 (cn r i x)∨ii r.ks x.kids≠y::t:=by
 by_cases hk:ii r.ks x.kids=y::t
 ·left;rw[KG r i x h8,hk];have hlo:c.lo.length=r.m.params.length+nb (r.m.nodes.take i):=by rw[hm.lo,mξ,Hl]
  have hd:=ae2 hm x.name;by_cases hl:Q6 r i x (y::t)=true
  ·rw[if_pos hl];obtain⟨g1,g2,g3,g4,g5⟩:=letR_t.1 hl;simp only[List.headD_cons]at g5;rw[g1,g2,g3]at hd;refine .inl ⟨?_,rfl⟩;unfold xi at ho;have e1:qp c i x=c:=by unfold qp;rw[if_neg (by rw[hd];decide),if_neg (by omega)]
   rw[e1,mε g5]at ho;have e2:cj c i true=c:=rfl;rw[e2]at ho;unfold mF at ho;rw[if_pos (by omega)]at ho;simp only[lα]at ho;subst ho;unfold lQ oZ;have hfs:cY c.fs x.name=none:=by
    rw[hm.fs];unfold Wh;rw[wQ g2]
   simp only[hfs,mN,if_true];exact hm.er
  ·rw[if_neg hl];refine .inr ⟨fun h0=>hl ?_,rfl⟩
   unfold xi at ho;cases hdc:mF (cj (qp c i x) i (decide (y=x.v.k))) x.name x.v.k with
   |none=>rw[hdc]at ho;cases ho
   |some c3=>
    rw[hdc]at ho;simp only[lα]at ho;subst ho;have e2:=RP h0;rw[I7 hdc]at e2;have hy:=sJ e2;simp only[lη]at hy;have e3:=kq e2;unfold qp at e3;split at e3
    ·exact absurd e3 (kh (by decide))
    ·rename_i hnd;split at e3
     ·exact absurd e3 (kh (by decide))
     ·rename_i h8';rw[hd]at hnd;simp only[Bool.not_eq_true,qδ]at hnd;have:=hm.l8;exact letR_t.2 ⟨hnd.2.2,hnd.1,hnd.2.1,by omega,by simpa using hy⟩
 ·exact .inr hk
theorem afP {c:CS}{r:RS}{i:Nat}{x:No}(h:Bf r)(hm:IF c r i)(hx:r.m.nodes[i]?=some x)(h18:x.op≠18)(h8:x.op≠8):(∃v,sq r.a r.m r.par i x.name=some v∧lQ c i x.name=(v,{c with va:=so c.va i v}))∨(sq r.a r.m r.par i x.name=none∧(lQ c i x.name).2.er≠0):=by
 have hf:=D4 h hm hx h18 h8 x.name;unfold lQ;rw[hf];cases sq r.a r.m r.par i x.name with
 |some v=>exact .inl ⟨v,rfl,rfl⟩
 |none=>exact .inr ⟨rfl,kh (by decide)⟩
theorem afz (ks l:List Int):(ii ks l).length=l.length:=by unfold ii;simp
theorem afW {c c2:CS}{r:RS}{i:Nat}{x:No}{k:Int}(h:Bf r)(hm:IF c r i)(hx:r.m.nodes[i]?=some x)(h18:x.op≠18)(ho:ZY c i x (ii r.ks x.kids)=some (k,c2)):NR c2 k (cn r i x):=by
 have hkv:=h.kv _ (mζ hx);have rg:=Zv hkv;obtain⟨a1,a2,a3,a4,a5⟩:=adr hkv;have hop:x.op=1∨x.op=2∨x.op=3∨x.op=4∨x.op=5∨x.op=6∨x.op=7∨x.op=8∨x.op=9∨x.op=10∨x.op=11∨x.op=12∨x.op=13∨x.op=14∨x.op=15∨x.op=16∨x.op=17:=by omega
 have hl:=afz r.ks x.kids;have huse:=afP h hm hx h18;rcases hop with o|o|o|o|o|o|o|o|o|o|o|o|o|o|o|o|o<;>(simp only[ZY,D0,xR,o,Int.reduceEq,Int.reduceLE,if_true,if_false,or_true,true_or,or_false,false_or]at ho)
 ·simp only[lα,lε]at ho;obtain⟨rfl,rfl⟩:=ho;exact .inl ⟨hm.er,Th r i x o⟩
 ·simp only[lα,lε]at ho;obtain⟨rfl,rfl⟩:=ho;rw[Ti r i x o];rcases huse (by omega)with⟨v,g1,g2⟩|⟨g1,g2⟩
  ·rw[g1,g2];exact .inl ⟨hm.er,rfl⟩
  ·rw[g1];exact .inr ⟨g2,rfl⟩
 ·simp only[lα,lε]at ho;obtain⟨rfl,rfl⟩:=ho;exact .inl ⟨hm.er,Tj r i x o⟩
 ·rw[Tk r i x o];cases hk:ii r.ks x.kids with
  |nil=>rw[hk]at ho;cases ho
  |cons y t=>
   rw[hk]at ho;simp only[lα,lε]at ho;obtain⟨rfl,rfl⟩:=ho;refine jC hm.er (fun g=>?_) (fun g=>?_)
   ·rw[aT,lη]at g;exact if_pos g
   ·rw[aT,mβ]at g;exact if_neg g
 ·rw[Tl r i x o];match hk:ii r.ks x.kids,ho with
  |y::z::t,ho=>
   simp only[lα,lε]at ho;obtain⟨rfl,rfl⟩:=ho;have hb:=af1 (h.bn _ (mζ hx) o) y z;simp only[List.getD_cons_zero,List.getD_cons_succ,hb];unfold af2;refine jC hm.er (fun g=>?_) (fun g=>?_)
   ·rw[g,cond_true,if_neg (aet _ _ _ g)]
   ·rw[g,cond_false];rfl
 ·rw[Tn r i x o];simp only[lα,lε]at ho;obtain⟨rfl,rfl⟩:=ho;obtain⟨b1,b2⟩:=af3 x.name (ii r.ks x.kids);by_cases g:(fQ x.name (ii r.ks x.kids)).2=0
  ·rw[if_neg (b1.1 g),b2 g];refine .inl ⟨?_,rfl⟩;unfold zu;rw[if_pos g];exact hm.er
  ·rw[if_pos (Classical.byContradiction fun e=>g (b1.2 e))];refine .inr ⟨?_,rfl⟩;unfold zu;rw[if_neg g];exact kh g
 ·rw[To r i x o];unfold Qx at ho;unfold Sc;rw[hm.pr]at ho;cases hlk:qN r.p x.name x.v.s with
  |none=>
   rw[hlk]at ho;simp only[lα,lε]at ho;obtain⟨rfl,rfl⟩:=ho;exact .inr ⟨kh (by decide),rfl⟩
  |some m=>
   rw[hlk]at ho;cases hk:ii r.ks x.kids with
   |nil=>rw[hk]at ho;cases ho
   |cons y t=>
    rw[hk]at ho;simp only[lα,lε]at ho;obtain⟨rfl,rfl⟩:=ho;refine jC hm.er (fun g=>?_) (fun g=>?_)
    ·simp only[lδ,lη]at g;exact if_pos g
    ·refine if_neg fun e=>?_
     have e1:y=3:=e.1;have e2:t=m.params.map (·.kind):=e.2;rw[mε e1,mε e2]at g;cases g
 ·cases hk:ii r.ks x.kids with
  |nil=>rw[hk]at ho;cases ho
  |cons y t=>
   rw[hk]at ho;simp only at ho;cases hs:xi c i x y with
   |none=>rw[hs]at ho;cases ho
   |some c3=>
    rw[hs]at ho;simp only[lα,lε]at ho;obtain⟨rfl,rfl⟩:=ho;rcases afO (t:=t) hm o hs with g|g
    ·exact g
    ·exact absurd hk g
 ·rw[Tp r i x o];cases hk:ii r.ks x.kids with
  |nil=>rw[hk]at ho;cases ho
  |cons y t=>
   rw[hk]at ho;simp only[lα,lε]at ho;obtain⟨rfl,rfl⟩:=ho;rcases huse (by omega)with⟨v,g1,g2⟩|⟨g1,g2⟩
   ·rw[g1,g2];refine jC hm.er (fun g=>?_) (fun g=>?_)
    ·simp only[lη]at g;exact if_pos g.symm
    ·simp only[mβ]at g;exact if_neg (fun e=>g (Eq.symm e))
   ·rw[g1];exact .inr ⟨fun e=>g2 (kq e),rfl⟩
 ·simp only[lα,lε]at ho;obtain⟨rfl,rfl⟩:=ho;exact .inl ⟨hm.er,by simp only[cn,o,Int.reduceEq,if_false]⟩
 ·rw[OB r i x o];cases hk:ii r.ks x.kids with
  |nil=>rw[hk]at ho;cases ho
  |cons y t=>
   rw[hk]at ho;simp only[lα,lε]at ho;obtain⟨rfl,rfl⟩:=ho;exact jC hm.er (fun g=>if_pos (of_decide_eq_true g)) (fun g=>if_neg (of_decide_eq_false g))
 ·rw[OC r i x o];cases hk:ii r.ks x.kids with
  |nil=>rw[hk]at ho;cases ho
  |cons y t=>
   rw[hk]at ho;simp only[lα,lε]at ho;obtain⟨rfl,rfl⟩:=ho;exact jC hm.er (fun g=>if_pos (of_decide_eq_true g)) (fun g=>if_neg (of_decide_eq_false g))
 ·rw[OD r i x o];rw[hm.re]at ho;cases hk:ii r.ks x.kids with
  |nil=>
   rw[hk]at ho;simp only[lα,lε]at ho;obtain⟨rfl,rfl⟩:=ho;refine jC hm.er (fun g=>if_pos ?_) (fun g=>if_neg ?_)
   ·by_cases e:r.m.result=0
    ·exact e
    ·rw[mα e]at g;cases g
   ·intro e;rw[mε e]at g;cases g
  |cons y t=>
   rw[hk]at ho;simp only[lα,lε]at ho;obtain⟨rfl,rfl⟩:=ho;by_cases e:r.m.result=0
   ·rw[mε e];refine .inr ⟨fun g=>?_,if_neg (fun g=>g.1 e)⟩
    have:=sJ (kq g);cases this
   ·rw[mα e];show NR (cj (cj c i true) i _) 0 _;refine jC (show(cj c i true).er=0 from hm.er) (fun g=>if_pos ⟨e,of_decide_eq_true g⟩) (fun g=>if_neg (fun q=>of_decide_eq_false g q.2))
 ·simp only[lα,lε]at ho;obtain⟨rfl,rfl⟩:=ho;exact .inl ⟨hm.er,by simp only[cn,o,Int.reduceEq,if_false]⟩
 ·rw[OE r i x o];simp only[lα,lε]at ho;obtain⟨rfl,rfl⟩:=ho;exact jC hm.er (fun g=>if_pos (of_decide_eq_true g)) (fun g=>if_neg (of_decide_eq_false g))
 ·rw[OF r i x o];simp only[lα,lε]at ho;obtain⟨rfl,rfl⟩:=ho;exact jC hm.er (fun g=>if_pos (of_decide_eq_true g)) (fun g=>if_neg (of_decide_eq_false g))
 ·rw[OG r i x o];cases hk:ii r.ks x.kids with
  |nil=>rw[hk]at ho;cases ho
  |cons y t=>
   rw[hk]at ho;simp only[lα,lε]at ho;obtain⟨rfl,rfl⟩:=ho;exact jC hm.er (fun g=>if_pos (of_decide_eq_true g)) (fun g=>if_neg (of_decide_eq_false g))
end
end Go.Ab
end
section
namespace Go.Ab
open Go
noncomputable section
theorem Cu:∀(a b i:Nat) (r:RS),iH (a+b) i r=match iH a i r with|none=>none|some r1=>iH b (i+a) r1
 |0,b,i,r=>by simp only[iH,Nat.zero_add,Nat.add_zero]
 |a+1,b,i,r=>by
  rw[show a+1+b=(a+b)+1 by omega];simp only[iH];cases xH r i with
  |none=>rfl
  |some r1=>
   simp only;rw[Cu a b (i+1) r1,show i+1+a=i+(a+1) by omega]
theorem E6:∀(n i:Nat) {r r':RS},Bf r→iH n i r=some r'→Bf r'
 |0,_,r,r',h,e=>by simp only[iH,lα]at e;subst e;exact h
 |n+1,i,r,r',h,e=>by
  simp only[iH]at e;cases hs:xH r i with
  |none=>rw[hs]at e;cases e
  |some r1=>
   rw[hs]at e;refine E6 n (i+1) ?_ e;unfold xH at hs;split at hs
   ·cases hs
   ·rw[mχ]at hs;obtain⟨k,_,rfl⟩:=hs;exact h.put i k
theorem O6:∀(n i:Nat) {r r':RS},iH n i r=some r'→∀j,j<i→r'.ks.getD j 0=r.ks.getD j 0
 |0,_,r,r',e,j,hj=>by simp only[iH,lα]at e;subst e;rfl
 |n+1,i,r,r',e,j,hj=>by
  simp only[iH]at e;cases hs:xH r i with
  |none=>rw[hs]at e;cases e
  |some r1=>
   rw[hs]at e;rw[O6 n (i+1) e j (by omega)];unfold xH at hs;split at hs
   ·cases hs
   ·rw[mχ]at hs;obtain⟨k,_,rfl⟩:=hs;show(r.ks.set i k).getD j 0=_;rw[lρ,lρ,mυ (by omega)]
def aee (M:Me)(P:List Int)(f:Nat):Prop:=∀(lo i:Nat),GP M.nodes lo i→∀(x:No),M.nodes[i]?=some x→∀(r:RS) (c:CS) (d:Bool) (k:Int) (c':CS),r.m=M→r.par=P→Bf r→IF c r lo→(x.op≠18→d=tC M.nodes P i)→(x.op=18→tC M.nodes P i=false)→j5 f c (i:Int) d=some (k,c')→
 (c'.er=0∧(x.op≠18→d=false)∧∃r',iH (i+1 - lo) lo r=some r'∧IF c' r' (i+1)∧k=r'.ks.getD i 0)∨(c'.er≠0∧iH (i+1 - lo) lo r=none)
theorem aaf {ns:List No}{lo i:Nat}(h:GP ns lo i):∃x,ns[i]?=some x:=⟨_,lγ h.lt⟩
theorem Nt {M:Me}{P:List Int}{f:Nat}(hv:aee M P f):∀(l:List Int) (lo hi:Nat),Ch M.nodes lo l hi→∀(r:RS) (c:CS) (kl:List Int) (c':CS),r.m=M→r.par=P→Bf r→IF c r lo→(∀k:Nat,(k:Int)∈l→tC M.nodes P k=false)→gR (fun c k=>j5 f c k false) c l=some (kl,c')→
  (c'.er=0∧∃r',iH (hi - lo) lo r=some r'∧IF c' r' hi∧kl=ii r'.ks l)∨(c'.er≠0∧iH (hi - lo) lo r=none)
 |[],lo,hi,h,r,c,kl,c',hm,hp,hb,hc,ha,hk=>by
  cases h;simp only[gR,lα,lε]at hk;obtain⟨rfl,rfl⟩:=hk;rw[Nat.sub_self];exact .inl ⟨hc.er,r,rfl,hc,rfl⟩
 |_::l,lo,hi,h,r,c,kl,c',hm,hp,hb,hc,ha,hk=>by
  cases h with
  | @cons _ q _ _ h1 h2=>
   have l1:=h1.le;have l2:=h2.le;obtain⟨x,hx⟩:=aaf h1;simp only[gR]at hk;cases e1:j5 f c (q:Int) false with
   |none=>rw[e1]at hk;cases hk
   |some r1=>
    obtain⟨y,c1⟩:=r1;rw[e1]at hk;simp only at hk;cases e2:gR (fun c k=>j5 f c k false) c1 l with
    |none=>rw[e2]at hk;cases hk
    |some r2=>
     obtain⟨ys,c2⟩:=r2;rw[e2]at hk;simp only[lα,lε]at hk;obtain⟨rfl,rfl⟩:=hk;have hq:=ha q (lτ ..);rw[show hi - lo=(q+1 - lo)+(hi - (q+1)) by omega,Cu,show lo+(q+1 - lo)=q+1 by omega];rcases hv lo q h1 x hx r c false y c1 hm hp hb hc (fun _=>hq.symm) (fun _=>hq) e1 with⟨g1,_,r1,g2,g3,g4⟩|⟨g1,g2⟩
     ·rw[g2];obtain⟨m1,_,_,m4⟩:=O8 _ _ _ _ g2;rcases Nt hv l (q+1) hi h2 r1 c1 ys c2 (m1.trans hm) (m4.trans hp) (E6 _ _ hb g2) g3 (fun k hk=>ha k (lχ _ hk)) e2 with⟨b1,r2,b2,b3,b4⟩|⟨b1,b2⟩
      ·refine .inl ⟨b1,r2,b2,b3,?_⟩;have:=O6 _ _ b2 q (by omega);unfold ii at b4 ⊢
       rw[List.map_cons,Int.toNat_natCast,this,←g4,b4]
      ·exact .inr ⟨b1,b2⟩
     ·rw[g2];exact .inr ⟨fun e=>g1 (Jw (fun c k r e=>Ln f c k false r e) l c1 e2 e),rfl⟩
def Ej (ns:List No)(pre:List Int):Bool:=match pre.getLast? with|some k=>jv ns k|none=>false
theorem Za {k:Int}(l:List Int):∀(pre:List Int),(∀y∈pre,y≠k)→(pre++k::l).findIdx? (fun y=>aw y k)=some pre.length
 |[],_=>by simp[mσ,aT]
 |y::pre,h=>by
  rw[List.cons_append,mσ,aT,mα (h y (lτ ..)),Za l pre fun z hz=>h z (lχ _ hz)];rfl
theorem aaV {ns:List No}{k:Nat}(l pre:List Int)(h:∀y∈pre,y≠(k:Int)):Xd ns (pre++(k:Int)::l) k=Ej ns pre:=by
 unfold Xd Ej;rw[Za l pre h];rcases List.eq_nil_or_concat pre with rfl|⟨t,z,rfl⟩
 ·rfl
 ·rw[List.concat_eq_append]at*
  have e1:(t++[z]).length=t.length+1:=by simp
  have e2:((t++[z])++(k:Int)::l)[t.length]?=some z:=by simp
  have e3:(t++[z]).getLast?=some z:=by simp
  rw[e1,e3];simp only[e2]
theorem aaW {ns:List No}{P:List Int}{k i:Nat}(hp:P.getD k 0=i)(ho:cE ns (i:Int)≠18):tC ns P k=false:=by
 unfold tC;simp only[hp];rw[if_neg (by omega),if_neg ho]
theorem Xe {ns:List No}{P:List Int}{k i:Nat}{x:No}(hp:P.getD k 0=i)(hx:ns[i]?=some x)(ho:x.op=18):tC ns P k=Xd ns x.kids k:=by
 unfold tC;simp only[hp];rw[if_neg (by omega),pf hx,if_pos ho];unfold QY;rw[nU,hx];rfl
theorem R8 {M:Me}{P:List Int}{f:Nat}(hv:aee M P f){b:Nat}{x:No}(hx:M.nodes[b]?=some x)(h18:x.op=18):∀(l pre:List Int) (lo hi:Nat),Ch M.nodes lo l hi→pre++l=x.kids→(∀y∈pre,y<(lo:Int))→∀(r:RS) (c:CS) (c':CS),r.m=M→r.par=P→Bf r→IF c r lo→rH (j5 f) c l (Ej M.nodes pre)=some c'→
  (c'.er=0∧∃r',iH (hi - lo) lo r=some r'∧IF c' r' hi)∨(c'.er≠0∧iH (hi - lo) lo r=none)
 |[],pre,lo,hi,h,hpre,hlt,r,c,c',hm,hp,hb,hc,hk=>by
  cases h;simp only[rH,lα]at hk;subst hk;rw[Nat.sub_self];exact .inl ⟨hc.er,r,rfl,hc⟩
 |_::l,pre,lo,hi,h,hpre,hlt,r,c,c',hm,hp,hb,hc,hk=>by
  cases h with
  | @cons _ q _ _ h1 h2=>
   have l1:=h1.le;have l2:=h2.le;obtain⟨y,hy⟩:=aaf h1;have hqk:(q:Int)∈x.kids:=by rw[←hpre];simp
   have hpq:P.getD q 0=(b:Int):=by
    have:=hb.tr.p1 b x (by rw[hm];exact hx) q hqk;rw[hp]at this;exact this
   have hy18:y.op≠18:=by
    have:=(Zu (hb.kv x (by rw[hm];exact mζ hx)) hqk).1 h18;rw[hm,pf hy]at this;exact this
   have hd:Ej M.nodes pre=tC M.nodes P q:=by
    rw[Xe hpq hx h18,←hpre,aaV l pre (fun z hz e=>by have:=hlt z hz;omega)]
   simp only[rH]at hk;cases e1:j5 f c (q:Int) (Ej M.nodes pre)with
   |none=>rw[e1]at hk;cases hk
   |some r1=>
    obtain⟨k,c1⟩:=r1;rw[e1]at hk;simp only at hk;rw[show hi - lo=(q+1 - lo)+(hi - (q+1)) by omega,Cu,show lo+(q+1 - lo)=q+1 by omega];rcases hv lo q h1 y hy r c _ k c1 hm hp hb hc (fun _=>hd) (fun e=>absurd e hy18) e1 with⟨g1,g0,r1,g2,g3,g4⟩|⟨g1,g2⟩
    ·rw[g2];obtain⟨m1,_,_,m4⟩:=O8 _ _ _ _ g2;rw[g0 hy18,g3.ns,m1,hm,Bool.false_or]at hk;have hle:Ej M.nodes (pre++[(q:Int)])=jv M.nodes q:=by unfold Ej;simp
     rw[←hle]at hk;exact R8 hv hx h18 l (pre++[(q:Int)]) (q+1) hi h2 (by rw[←hpre];simp) (fun z hz=>by
      rcases mρ.1 hz with hz|hz
      ·have:=hlt z hz;omega
      ·simp at hz;omega) r1 c1 c' (m1.trans hm) (m4.trans hp) (E6 _ _ hb g2) g3 hk
    ·rw[g2];exact .inr ⟨fun e=>g1 (Qu (fun c k d r e=>Ln f c k d r e) l c1 _ hk e),rfl⟩
theorem ahE {r:RS}(h:Bf r){lo i:Nat}(hs:GP r.m.nodes lo i){x:No}(hx:r.m.nodes[i]?=some x)(h18:x.op=18)(s:List Nat):Pv r (i+1) s=Pv r lo s:=by
 unfold Pv;split
 ·rfl
 ·refine sZ _ _ _ fun j y hy o hn=>?_
  rw[Nat.zero_add];have hle:=hs.le;have hne:j≠i:=fun e=>by
   subst e;rw[hx]at hy;simp only[lα]at hy;subst hy;omega
  unfold sgt;by_cases h1:j<lo
  ·have:=h.tr.sub_out hs h1;rw[mε h1,mε (show j<i+1 by omega),Bool.true_and,Bool.true_and];exact decide_eq_decide.2 ⟨fun _=>by omega,fun _=>by omega⟩
  ·rw[mα h1,Bool.false_and];by_cases h2:j<i
   ·have:=h.tr.sub_in hs (by omega) h2;rw[mα (show ¬((i+1:Nat):Int)≤r.par.getD j 0 by omega),Bool.and_false]
   ·rw[mα (show ¬j<i+1 by omega),Bool.false_and]
theorem ahg {c:CS}{r:RS}{i:Nat}{x:No}(h:Bf r)(hm:IF c r i)(hx:r.m.nodes[i]?=some x)(h18:x.op=18)(sc:List (List Nat×Vr))(hsc:∀s,cY sc s=Pv r (i+1) s)(k:Int):IF {c with sc:=sc} (r.put i k) (i+1) where
 er:=hm.er
 ns:=hm.ns
 pr:=hm.pr
 re:=hm.re
 fs:=hm.fs
 ki j:=by rw[adQ h.ok.sl hx,if_neg (fun g=>by have:=g.1;omega)];exact hm.ki j
 va j:=by rw[Pj hx,if_neg (fun g=>by have:=g.1;omega)];exact hm.va j
 lo:=by show c.lo=r.m.params++ug (r.m.nodes.take (i+1));rw[JV hx,if_neg (by omega),mθ];exact hm.lo
 l8:=hm.l8
 le s:=by
  show cY c.le s=if((r.m.params.any fun f=>aK f.name s)||m9 (r.m.nodes.take (i+1)) s)=true then some true else none
  rw[Q5 hx,mα (by omega),Bool.false_and,Bool.or_false];exact hm.le s
 sc:=hsc
theorem Tu {r:RS}{i:Nat}{x:No}(hx:r.m.nodes[i]?=some x):iH 1 i r=(wv r i (cn r i x)).map (r.put i):=by
 simp only[iH,xH,hx];cases(wv r i (cn r i x)).map (r.put i)<;>rfl
theorem KC {r:RS}(h:Bf r){i:Nat}{x:No}(hx:r.m.nodes[i]?=some x)(k:Int):k=(r.put i k).ks.getD i 0:=by
 show k=(r.ks.set i k).getD i 0;have:=Eb hx;rw[lρ,qγ (by rw[h.ok.sl];exact this)];rfl
theorem Lo {M:Me}{P:List Int}:∀f,aee M P f
 |0,lo,i,hs,x,hx,r,c,d,k,c',hm,hp,hb,hc,hd,ha,h=>by simp[j5]at h
 |f+1,lo,i,hs,x,hx,r,c,d,k,c',hm,hp,hb,hc,hd,ha,h=>by
  have hle:=hs.le;have hxr:r.m.nodes[i]?=some x:=by rw[hm];exact hx
  have hsr:GP r.m.nodes lo i:=by rw[hm];exact hs
  cases hs with
  | @mk _ _ x' hx' hch=>
   rw[hx]at hx';simp only[lα]at hx';subst hx';have hxc:jI c.ns (i:Int)=some x:=by rw[hc.ns,nU];exact hxr
   simp only[j5,hxc]at h;rw[show i+1 - lo=(i - lo)+1 by omega,Cu,show lo+(i - lo)=i by omega];by_cases h18:x.op=18
   ·rw[if_pos h18]at h;unfold qi at h;cases e1:rH (j5 f) c x.kids false with
    |none=>rw[e1]at h;cases h
    |some c1=>
     rw[e1]at h;simp only[lα,lε]at h;rcases R8 (Lo f) hx h18 x.kids [] lo i hch rfl (fun y hy=>by cases hy) r c c1 hm hp hb hc e1 with⟨g1,r1,g2,g3⟩|⟨g1,g2⟩
     ·rw[g2];obtain⟨m1,m2,m3,m4⟩:=O8 _ _ _ _ g2;have hb1:=E6 _ _ hb g2;have hx1:r1.m.nodes[i]?=some x:=by rw[m1];exact hxr
      have hsc:∀s,cY c.sc s=Pv r1 (i+1) s:=fun s=>by
       rw[ahE hb1 (by rw[m1];exact hsr) hx1 h18,hc.sc];unfold Pv;rw[m1,m4]
      have hmb:=ahg hb1 g3 hx1 h18 c.sc hsc 0;simp only;rw[Tu hx1,OH _ _ _ h18];have hno:∀o,wv r1 i o=o:=fun o=>by unfold wv;rw[m1,hm,m4,hp,ha h18];rfl
      rw[hno];have hlen:c1.ns.length=r1.m.nodes.length:=by rw[g3.ns]
      have hi:=Eb hx1;obtain⟨rfl,rfl⟩:=h;by_cases hroot:(i:Int)=(c1.ns.length:Int) - 1
      ·have hvv:(decide (c1.re=0)||jv c1.ns (i:Int))=(decide (r1.m.result=0)||jv r1.m.nodes (i:Int)):=by rw[g3.re,g3.ns]
       rw[if_pos hroot,hvv];by_cases hre:r1.m.result=0
       ·rw[mε hre,Bool.true_or,if_neg (fun e=>e.2.1 hre)];exact .inl ⟨g1,fun e=>absurd h18 e,_,rfl,hmb,KC hb1 hx1 0⟩
       ·rw[mα hre,Bool.false_or];cases hen:jv r1.m.nodes (i:Int)with
        |true=>
         rw[if_neg (fun e=>by have:=e.2.2;cases this)];exact .inl ⟨g1,fun e=>absurd h18 e,_,rfl,hmb,KC hb1 hx1 0⟩
        |false=>
         rw[if_pos ⟨by omega,hre,rfl⟩];exact .inr ⟨fun e=>absurd (sJ e) (by simp),rfl⟩
      ·rw[if_neg hroot,if_neg (fun e=>hroot (by have:=e.1;omega))];exact .inl ⟨g1,fun e=>absurd h18 e,_,rfl,hmb,KC hb1 hx1 0⟩
     ·rw[g2];refine .inr ⟨fun e=>g1 ?_,rfl⟩
      rw[←h.2]at e;split at e
      ·have:=kq e;exact this
      ·exact e
   ·rw[if_neg h18]at h;cases e1:gR (fun c k=>j5 f c k false) c x.kids with
    |none=>rw[e1]at h;cases h
    |some r1=>
     obtain⟨kl,c1⟩:=r1;rw[e1]at h;simp only at h;have haf:∀k:Nat,(k:Int)∈x.kids→tC M.nodes P k=false:=fun k hk=>by
      have:=hb.tr.p1 i x hxr k hk;rw[hp]at this;exact aaW this (by rw[pf hx];exact h18)
     rcases Nt (Lo f) x.kids lo i hch r c kl c1 hm hp hb hc haf e1 with⟨g1,r1,g2,g3,g4⟩|⟨g1,g2⟩
     ·rw[g2];obtain⟨m1,m2,m3,m4⟩:=O8 _ _ _ _ g2;have hb1:=E6 _ _ hb g2;have hx1:r1.m.nodes[i]?=some x:=by rw[m1];exact hxr
      rw[if_pos g1]at h;cases e2:ZY c1 (i:Int) x kl with
      |none=>rw[e2]at h;cases h
      |some r2=>
       obtain⟨k2,c2⟩:=r2;rw[e2]at h;simp only[lα,lε]at h;obtain⟨rfl,rfl⟩:=h;subst g4;simp only;rw[Tu hx1];have hda:tC r1.m.nodes r1.par i=d:=by rw[m1,hm,m4,hp];exact(hd h18).symm
       rcases afW hb1 g3 hx1 h18 e2 with⟨z1,z2⟩|⟨z1,z2⟩
       ·rw[z2];unfold wv;rw[hda];cases d with
        |true=>
         refine .inr ⟨fun e=>?_,rfl⟩
         rw[Ck]at e;exact absurd (sJ e) (by simp)
        |false=>
         have hmm:=ahh hb1 g3 hx1 h18 (aim e2 z1) (fun h8=>by
          rw[KG _ _ _ h8]at z2;split at z2
          ·assumption
          ·cases z2)
         exact .inl ⟨by rw[Ck];exact z1,fun _=>rfl,_,rfl,hmm,KC hb1 hx1 k2⟩
       ·rw[z2,My];exact .inr ⟨fun e=>by rw[Ck]at e;exact z1 (kq e),rfl⟩
     ·rw[g2];rw[if_neg g1]at h;simp only[lα,lε]at h;obtain⟨rfl,rfl⟩:=h;exact .inr ⟨g1,rfl⟩
end
end Go.Ab
end
section
namespace Go.Ab
open Go
noncomputable section
def Bu {α:Type}(nm:α→List Nat)(mk:α→Nat→Vr)(l:List α)(k:Nat)(s:List Nat):Option Vr:=match (l.take k).findIdx? fun f=>aK (nm f) s with
 |some j=>l[j]?.map fun f=>mk f j
 |none=>none
theorem fst_none {α:Type}{nm:α→List Nat}{mk:α→Nat→Vr}{l:List α}{k:Nat}{s:List Nat}:Bu nm mk l k s=none↔((l.take k).any fun f=>aK (nm f) s)=false:=by
 unfold Bu;cases hf:(l.take k).findIdx? fun f=>aK (nm f) s with
 |none=>
  refine⟨fun _=>?_,fun _=>rfl⟩
  rw[qθ];intro x hx;rw[mτ.1 hf x hx];simp
 |some j=>
  obtain⟨h1,h2,_⟩:=lυ.1 hf;have h3:j<l.length:=by simp at h1;omega
  have h4:((l.take k).any fun f=>aK (nm f) s)=true:=qν.2 ⟨_,lι h1,h2⟩;simp only[lγ h3,Option.map_some,h4];exact⟨fun g=>(by cases g),fun g=>(by cases g)⟩
theorem adG {α:Type}{nm:α→List Nat}{mk:α→Nat→Vr}{l:List α}{k:Nat}(hk:k<l.length)(h:((l.take k).any fun f=>aK (nm f) (nm l[k]))=false)(s:List Nat):Bu nm mk l (k+1) s=if s=nm l[k]then some (mk l[k] k)else Bu nm mk l k s:=by
 have htl:(l.take k).length=k:=by simp;omega
 unfold Bu;rw[List.take_add_one,lγ hk,Option.toList_some,List.findIdx?_append,htl];by_cases e:s=nm l[k]
 ·subst e;rw[if_pos rfl];have:(l.take k).findIdx? (fun f=>aK (nm f) (nm l[k]))=none:=wQ h;rw[this];simp[mσ,dn,lγ hk]
 ·rw[if_neg e];have:([l[k]].findIdx? fun f=>aK (nm f) s)=none:=by
   simp[mσ,dn];exact fun g=>e g.symm
  rw[this];simp
def MY {α:Type}(nm:α→List Nat)(l:List α)(i:Nat):Bool:=match l[i]? with
 |some x=>(l.take i).any fun f=>aK (nm f) (nm x)
 |none=>false
theorem SB (all:List Fe):∀(l:List Fe) (k:Nat) (acc:List (List Nat×Vr)),all.drop k=l→k≤all.length→(∀s,cY acc s=Bu Fe.name (fun f j=>⟨f.kind,j,true⟩) all k s)→
  (∃fs,Bt acc l k=some fs∧(∀i,k≤i→MY Fe.name all i=false)∧∀s,cY fs s=Bu Fe.name (fun f j=>⟨f.kind,j,true⟩) all all.length s)∨(Bt acc l k=none∧∃i,k≤i∧i<all.length∧MY Fe.name all i=true)
 |[],k,acc,hd,hk,ha=>by
  have hl:k=all.length:=by
   have:=congrArg List.length hd;simp at this;omega
  subst hl;exact .inl ⟨acc,rfl,fun i hi=>by unfold MY;rw[lθ hi],ha⟩
 |x::l,k,acc,hd,hk,ha=>by
  have hlt:k<all.length:=by
   rcases lπ k all.length with h1|h1
   ·exact h1
   ·rw[qβ h1]at hd;cases hd
  rw[lξ hlt]at hd;simp only[lκ]at hd;obtain⟨rfl,hd⟩:=hd;have hdk:MY Fe.name all k=(all.take k).any fun f=>aK f.name all[k].name:=by unfold MY;rw[lγ hlt]
  simp only[Bt];cases hg:cY acc all[k].name with
  |some w=>
   refine .inr ⟨rfl,k,Nat.le_refl _,hlt,?_⟩;rw[hdk];cases hb:(all.take k).any fun f=>aK f.name all[k].name with
   |true=>rfl
   |false=>
    rw[ha,fst_none.2 hb]at hg;cases hg
  |none=>
   rw[ha,fst_none]at hg;rcases SB all l (k+1) (ne acc all[k].name ⟨all[k].kind,k,true⟩) hd hlt (fun s=>by rw[mN,ha,adG hlt hg])with⟨fs,g1,g2,g3⟩|⟨g1,i,g2,g3,g4⟩
   ·refine .inl ⟨fs,g1,fun i hi=>?_,g3⟩
    by_cases e:i=k
    ·subst e;rw[hdk];exact hg
    ·exact g2 i (by omega)
   ·exact .inr ⟨g1,i,by omega,g3,g4⟩
theorem Hb (a:Ac):ua a=true↔∀i,i<a.fields.length→MY Fe.name a.fields i=false:=by
 unfold ua;rw[mη];refine⟨fun h i hi=>?_,fun h i hi=>?_⟩
 ·have:=h i (by simpa using hi);unfold MY;rw[lγ hi]at this ⊢
  simpa using this
 ·have hi2:i<a.fields.length:=by simpa using hi
  have:=h i hi2;unfold MY at this;rw[lγ hi2]at this ⊢
  simp only at this ⊢
  rw[this];rfl
theorem ab6 (a:Ac):(∃fs,Bt [] a.fields 0=some fs∧ua a=true∧∀(r:RS),r.a=a→∀s,cY fs s=Wh r s)∨(Bt [] a.fields 0=none∧ua a=false):=by
 rcases SB a.fields a.fields 0 [] rfl (Nat.zero_le _) (fun s=>by simp[cY,Bu])with⟨fs,g1,g2,g3⟩|⟨g1,i,g2,g3,g4⟩
 ·refine .inl ⟨fs,g1,(Hb a).2 fun i _=>g2 i (Nat.zero_le _),fun r hr s=>?_⟩
  rw[g3,←hr];unfold Bu Wh;rw[hr,List.take_length];all_goals (cases a.fields.findIdx? fun f=>aK f.name s<;>rfl)
 ·refine .inr ⟨g1,?_⟩;cases h:ua a with
  |false=>rfl
  |true=>rw[(Hb a).1 h i g3]at g4;cases g4
structure PaI (c:CS)(r:RS)(k:Nat):Prop where
 er:c.er=0
 ns:c.ns=r.m.nodes
 pr:c.pr=r.p
 re:c.re=r.m.result
 fs:∀s,cY c.fs s=Wh r s
 ki:c.ki=[]
 va:c.va=[]
 lo:c.lo=r.m.params.take k
 le:∀s,cY c.le s=if((r.m.params.take k).any fun f=>aK f.name s)=true then some true else none
 sc:∀s,cY c.sc s=Bu Pa.name (fun f j=>⟨f.kind,j,false⟩) r.m.params k s
def Gk (r:RS)(i:Nat):Bool:=match r.m.params[i]? with
 |some x=>(r.a.fields.any fun f=>aK f.name x.name)||((r.m.params.take i).any fun f=>aK f.name x.name)
 |none=>false
theorem ab8 (r:RS)(s:List Nat):(Wh r s).isSome=r.a.fields.any fun f=>aK f.name s:=by
 unfold Wh;cases hf:r.a.fields.findIdx? fun f=>aK f.name s with
 |some j=>
  obtain⟨h1,h2,_⟩:=lυ.1 hf;have:(r.a.fields.any fun f=>aK f.name s)=true:=qν.2 ⟨_,lι h1,h2⟩;rw[this];simp only[lγ h1,Option.map_some,Option.isSome_some]
 |none=>
  have:(r.a.fields.any fun f=>aK f.name s)=false:=by
   rw[qθ];intro x hx;rw[mτ.1 hf x hx];simp
  rw[this];rfl
theorem Td (r:RS)(hq:r.m.params.length<1501):∀(l:List Pa) (k:Nat) (c:CS),r.m.params.drop k=l→k≤r.m.params.length→PaI c r k→
  (∃c',xE c l=some (some c')∧(∀i,k≤i→Gk r i=false)∧PaI c' r r.m.params.length)∨(xE c l=some none∧∃i,k≤i∧i<r.m.params.length∧Gk r i=true)
 |[],k,c,hd,hk,hc=>by
  have hl:k=r.m.params.length:=by
   have:=congrArg List.length hd;simp at this;omega
  subst hl;exact .inl ⟨c,rfl,fun i hi=>by unfold Gk;rw[lθ hi],hc⟩
 |x::l,k,c,hd,hk,hc=>by
  have hlt:k<r.m.params.length:=by
   rcases lπ k r.m.params.length with h1|h1
   ·exact h1
   ·rw[qβ h1]at hd;cases hd
  rw[lξ hlt]at hd;simp only[lκ]at hd;obtain⟨rfl,hd⟩:=hd;have hdk:Gk r k=((r.a.fields.any fun f=>aK f.name r.m.params[k].name)||((r.m.params.take k).any fun f=>aK f.name r.m.params[k].name)):=by unfold Gk;rw[lγ hlt]
  have hdup:zp c r.m.params[k].name=Gk r k:=by
   rw[hdk];unfold zp;rw[hc.fs,hc.le,←ab8];cases Wh r r.m.params[k].name with
   |some v=>rfl
   |none=>cases(r.m.params.take k).any fun f=>aK f.name r.m.params[k].name<;>rfl
  simp only[xE];rw[hdup];cases hb:Gk r k with
  |true=>rw[if_pos rfl];exact .inr ⟨rfl,k,Nat.le_refl _,hlt,hb⟩
  |false=>
   rw[if_neg (by decide)];rw[hdk,qδ]at hb;have hll:c.lo.length=k:=by rw[hc.lo];simp;omega
   unfold mF;rw[if_pos (by omega)];simp only;have hn:PaI {c with sc:=ne c.sc r.m.params[k].name ⟨r.m.params[k].kind,c.lo.length,false⟩,le:=ne c.le r.m.params[k].name true,lo:=c.lo++[⟨r.m.params[k].name,r.m.params[k].kind⟩]} r (k+1):=by
    refine⟨hc.er,hc.ns,hc.pr,hc.re,hc.fs,hc.ki,hc.va,?_,fun s=>?_,fun s=>?_⟩
    ·show c.lo++_=_;rw[List.take_add_one,lγ hlt,hc.lo];rfl
    ·show cY (ne c.le _ true) s=_;rw[mN,hc.le,List.take_add_one,lγ hlt,Option.toList_some,List.any_append];by_cases e:s=r.m.params[k].name
     ·subst e;simp[dn]
     ·rw[if_neg e];have:([r.m.params[k]].any fun f=>aK f.name s)=false:=by
       simp[dn];exact fun g=>e g.symm
      rw[this,Bool.or_false]
    ·show cY (ne c.sc _ _) s=_;rw[mN,hc.sc,adG hlt hb.2,hll]
   rcases Td r hq l (k+1) _ hd hlt hn with⟨c',g1,g2,g3⟩|⟨g1,i,g2,g3,g4⟩
   ·refine .inl ⟨c',g1,fun i hi=>?_,g3⟩
    by_cases e:i=k
    ·subst e;rw[hdk,hb.1,hb.2];rfl
    ·exact g2 i (by omega)
   ·exact .inr ⟨g1,i,by omega,g3,g4⟩
theorem HB (r:RS):xC r.a r.m=true↔∀i,i<r.m.params.length→Gk r i=false:=by
 unfold xC;rw[mη];refine⟨fun h i hi=>?_,fun h i hi=>?_⟩
 ·have:=h i (by simpa using hi);unfold Gk;rw[lγ hi]at this ⊢
  simpa using this
 ·have hi2:i<r.m.params.length:=by simpa using hi
  have:=h i hi2;unfold Gk at this;rw[lγ hi2]at this ⊢
  simp only at this ⊢
  rw[this];rfl
theorem acg {c:CS}{r:RS}(h:PaI c r r.m.params.length)(hq:r.m.params.length≤8):IF c r 0 where
 er:=h.er
 ns:=h.ns
 pr:=h.pr
 re:=h.re
 fs:=h.fs
 ki i:=by
  rw[h.ki];show none=_;unfold kiM;cases ha:jI r.m.nodes i with
  |none=>rfl
  |some x=>
   obtain⟨j,rfl,_⟩:=B8 ha;exact(if_neg (fun g=>by have:=g.1;omega)).symm
 va i:=by
  rw[h.va];show none=_;unfold vaM;cases ha:jI r.m.nodes i with
  |none=>rfl
  |some x=>
   obtain⟨j,rfl,_⟩:=B8 ha;exact(if_neg (fun g=>by have:=g.1;omega)).symm
 lo:=by rw[h.lo,List.take_length];simp[ug]
 l8:=by rw[h.lo,List.take_length];exact hq
 le s:=by rw[h.le,List.take_length];simp[m9]
 sc s:=by
  rw[h.sc];unfold Bu Pv;rw[List.take_length];cases r.m.params.findIdx? fun f=>aK f.name s with
  |some j=>rfl
  |none=>exact(D1 (P:=sgt r.par 0) _ _ _ fun j _=>by unfold sgt;rw[mα (by omega)];rfl).symm
end
end Go.Ab
end
section
namespace Go.Ab
open Go
set_option maxRecDepth 100000
noncomputable section
theorem aba {p:List Ac}(hp:IG p)(hv:cw p=true){a:Ac}(ha:a∈p){m:Me}(hm:m∈a.methods):Bf (RS.ini p a m):=by
 have hb:=(vE hv ha hm).1;have hb':=hb;unfold fR at hb';simp only[lδ,mη]at hb';obtain⟨_,h18,hall,_⟩:=hb';refine⟨ahJ hb,Zl hp hv ha hm,GY hb,fun x hx h5=>?_,?_⟩
 ·have:=(hall x hx).2;unfold dw gi at this;rw[h5]at this;simp only[aT,Int.reduceEq,decide_false,decide_true,cond_true,cond_false]at this;cases hbo:binO.any fun t=>aK x.name t with
  |true=>rfl
  |false=>rw[hbo]at this;cases this
 ·rw[aT]at h18;exact of_decide_eq_true h18
theorem U0 {p:List Ac}(hp:IG p)(hv:cw p=true){a:Ac}(ha:a∈p){m:Me}(hm:m∈a.methods){fs:List (List Nat×Vr)}(hfs:∀s,cY fs s=Wh (RS.ini p a m) s){o:Option CS}(h:oy 1501 p fs m=some o):
  (∃c r',o=some c∧c.er=0∧xC a m=true∧iH m.nodes.length 0 (RS.ini p a m)=some r'∧IF c r' m.nodes.length)∨((∀c,o=some c→c.er≠0)∧(xC a m=true→iH m.nodes.length 0 (RS.ini p a m)=none)):=by
 have hbf:=aba hp hv ha hm;have hq:=((Pm hv).2 a ha m hm).2;have hpi:PaI (CS.init p fs m) (RS.ini p a m) 0:=⟨rfl,rfl,rfl,rfl,hfs,rfl,rfl,by simp[CS.init],fun s=>by simp[CS.init,cY],fun s=>by simp[CS.init,cY,Bu]⟩
 unfold oy at h;rcases Td (RS.ini p a m) (by show m.params.length<1501;omega) m.params 0 _ rfl (Nat.zero_le _) hpi with⟨c1,g1,g2,g3⟩|⟨g1,i,_,g3,g4⟩
 ·rw[g1]at h;simp only at h;have hpo:=(HB (RS.ini p a m)).2 fun i _=>g2 i (Nat.zero_le _)
  have hmat:=acg g3 (by show m.params.length≤8;omega);obtain⟨k,hs,hk,hkp⟩:=hbf.tr.root;obtain⟨x,hx⟩:=aaf hs;have he:((m.nodes.length:Int) - 1)=(k:Int):=by
   have:k+1=m.nodes.length:=hk;omega
  rw[he]at h;have hx18:x.op=18:=by
   have:=hbf.r18;rw[show(RS.ini p a m).m.nodes.length - 1=k by omega,pf hx]at this;exact this
  have hroot:tC m.nodes (xD m.nodes) k=false:=by
   unfold tC;have:(xD m.nodes).getD k 0= -1:=hkp;simp only[this];rfl
  have hk1:k+1 - 0=m.nodes.length:=hk;cases hvt:j5 1501 c1 (k:Int) false with
  |none=>rw[hvt]at h;cases h
  |some rr=>
   obtain⟨y,c2⟩:=rr;rw[hvt]at h;simp only[lα]at h;rcases Lo (M:=m) (P:=xD m.nodes) 1501 0 k hs x hx (RS.ini p a m) c1 false y c2 rfl rfl hbf hmat (fun e=>absurd hx18 e) (fun _=>hroot) hvt with⟨b1,_,r',b2,b3,_⟩|⟨b1,b2⟩
   ·rw[hk1]at b2;rw[show k+1=m.nodes.length from hk]at b3;exact .inl ⟨c2,r',h.symm,b1,hpo,b2,b3⟩
   ·rw[hk1]at b2;exact .inr ⟨fun c e=>by rw[←h]at e;simp only[lα]at e;rw[←e];exact b1,fun _=>b2⟩
 ·rw[g1]at h;simp only[lα]at h;refine .inr ⟨fun c e=>(by rw[←h]at e;cases e),fun e=>?_⟩
  have:=(HB (RS.ini p a m)).1 e i g3;rw[this]at g4;cases g4
theorem R5 {α:Type}(l:List α)(nm:α→List Nat)(s:List Nat):(l.any fun x=>decide (nm x=s))=l.any fun x=>aK (nm x) s:=by
 congr 1;funext x;rw[dn]
theorem SX {p:List Ac}(hp:IG p)(hv:cw p=true){a:Ac}(ha:a∈p){fs:List (List Nat×Vr)}(hfs:∀m,∀s,cY fs s=Wh (RS.ini p a m) s){i:Nat}:∀(l:List Me) (j:Nat) (acc:List CS) {o:An ⊕ List CS},a.methods.drop j=l→j≤a.methods.length→BF 1501 p fs i a.methods l j acc=some o→
  (∃b,o= .inr b∧uW (fun k=>(zS p a k).isSome) l.length j=true)∨(∃e,o= .inl e∧e.er≠0∧uW (fun k=>(zS p a k).isSome) l.length j=false)
 |[],j,acc,o,hd,hj,h=>by
  simp only[BF,lα]at h;exact .inl ⟨acc,h.symm,rfl⟩
 |m::l,j,acc,o,hd,hj,h=>by
  have hlt:j<a.methods.length:=by
   rcases lπ j a.methods.length with h1|h1
   ·exact h1
   ·rw[qβ h1]at hd;cases hd
  rw[lξ hlt]at hd;simp only[lκ]at hd;obtain⟨rfl,hd⟩:=hd;have hmm:a.methods[j]∈a.methods:=lι _;simp only[BF]at h;simp only[List.length_cons,uW];rw[R5]at h;have hmet:zS p a j=if((a.methods.take j).any fun f=>aK f.name a.methods[j].name)=true then none else if xC a a.methods[j]=true then(iH a.methods[j].nodes.length 0 (RS.ini p a a.methods[j])).map (·.ks)else none:=by unfold zS;rw[lγ hlt]
  by_cases hdup:((a.methods.take j).any fun f=>aK f.name a.methods[j].name)=true
  ·rw[if_pos hdup]at h hmet;simp only[lα]at h;refine .inr ⟨_,h.symm,(show(7:Int)≠0 by decide),?_⟩;rw[hmet];rfl
  ·rw[if_neg hdup]at h hmet;cases hc:oy 1501 p fs a.methods[j]with
   |none=>rw[hc]at h;cases h
   |some oc=>
    rw[hc]at h;rcases U0 hp hv ha hmm (hfs _) hc with⟨c,r',g1,g2,g3,g4,_⟩|⟨g1,g2⟩
    ·subst g1;simp only at h;rw[if_pos g2]at h;rw[if_pos g3,g4]at hmet;rw[hmet];simp only[Option.map_some,Option.isSome_some,Bool.true_and];exact SX hp hv ha hfs l (j+1) _ hd hlt h
    ·have hmn:zS p a j=none:=by
      rw[hmet];by_cases hpo:xC a a.methods[j]=true
      ·rw[if_pos hpo,g2 hpo];rfl
      ·rw[if_neg hpo]
     rw[hmn];cases oc with
     |none=>
      simp only[lα]at h;exact .inr ⟨_,h.symm,(show(7:Int)≠0 by decide),rfl⟩
     |some c=>
      simp only at h;rw[if_neg (g1 c rfl)]at h;simp only[lα]at h;exact .inr ⟨_,h.symm,g1 c rfl,rfl⟩
theorem Vn {p:List Ac}{t:Nat}(ht:t<p.length):decide (p.findIdx? (fun b=>aK b.name p[t].name)=some t)=!((p.take t).any fun x=>aK x.name p[t].name):=by
 cases hb:(p.take t).any fun x=>aK x.name p[t].name with
 |true=>
  rw[qν]at hb;obtain⟨x,hx,h1⟩:=hb;obtain⟨i,hi,rfl⟩:=qε hx;have hit:i<t:=by simp at hi;omega
  simp only[Bool.not_true,mβ];intro e;obtain⟨_,_,h3⟩:=lυ.1 e;rw[qι]at h1;exact h3 i hit h1
 |false=>
  simp only[Bool.not_false,lη];refine lυ.2 ⟨ht,by rw[dn];simp,fun j hj h=>?_⟩
  rw[qθ]at hb;have hjl:j<(p.take t).length:=by simp;omega
  refine hb _ (lι hjl) ?_;rw[qι];exact h
theorem TD {p:List Ac}(hp:IG p)(hv:cw p=true):∀(l:List Ac) (j:Nat) (acc:List (List CS)) {o:An},p.drop j=l→j≤p.length→B0 1501 p l j acc=some o→(o.er=0↔uW (V9 p) l.length j=true)∧(o.er=0→∃bs,o= .good bs)
 |[],j,acc,o,hd,hj,h=>by
  simp only[B0,lα]at h;subst h;exact⟨⟨fun _=>rfl,fun _=>rfl⟩,fun _=>⟨_,rfl⟩⟩
 |a::l,j,acc,o,hd,hj,h=>by
  have hlt:j<p.length:=by
   rcases lπ j p.length with h1|h1
   ·exact h1
   ·rw[qβ h1]at hd;cases hd
  rw[lξ hlt]at hd;simp only[lκ]at hd;obtain⟨rfl,hd⟩:=hd;have ha:p[j]∈p:=lι _;simp only[B0]at h;rw[R5]at h;simp only[List.length_cons,uW];have htr:V9 p j=(!((p.take j).any fun x=>aK x.name p[j].name)&&(ua p[j]&&uW (fun k=>(zS p p[j] k).isSome) p[j].methods.length 0)):=by
   unfold V9;rw[lγ hlt];simp only;rw[Vn hlt]
  rw[htr];have bad:∀(o:An),o.er≠0→(o.er=0↔false=true)∧(o.er=0→∃bs,o= .good bs):=fun o ho=>⟨⟨fun e=>absurd e ho,fun e=>by cases e⟩,fun e=>absurd e ho⟩
  cases hdup:(p.take j).any fun x=>aK x.name p[j].name with
  |true=>
   rw[hdup,if_pos rfl]at h;simp only[lα]at h;subst h;exact bad _ (show(7:Int)≠0 by decide)
  |false=>
   rw[hdup,if_neg (by decide)]at h;rcases ab6 p[j]with⟨fs,g1,g2,g3⟩|⟨g1,g2⟩
   ·rw[g1]at h;simp only at h;rw[g2];cases hm:BF 1501 p fs j p[j].methods p[j].methods 0 []with
    |none=>rw[hm]at h;cases h
    |some om=>
     rw[hm]at h;rcases SX hp hv ha (fun m s=>g3 (RS.ini p p[j] m) rfl s) p[j].methods 0 [] rfl (Nat.zero_le _) hm with⟨b,e1,e2⟩|⟨e,e1,e2,e3⟩
     ·subst e1;rw[e2];exact TD hp hv l (j+1) _ hd hlt h
     ·subst e1;simp only[lα]at h;subst h;rw[e3];exact bad _ e2
   ·rw[g1]at h;simp only[lα]at h;subst h;rw[g2];exact bad _ (show(7:Int)≠0 by decide)
theorem aek {p:List Ac}(hp:IG p):((Lr p).er=0↔Bq p=true)∧((Lr p).er=0→∃bs,Lr p= .good bs):=by
 unfold Lr Bq;cases hv:cw p with
 |false=>exact⟨⟨fun e=>(by cases e),fun e=>(by cases e)⟩,fun e=>(by cases e)⟩
 |true=>
  obtain⟨o,ho⟩:=HU hp hv;rw[ho];have:=TD hp hv p 0 [] rfl (Nat.zero_le _) ho;exact this
end
end Go.Ab
end
section
namespace Go.Ab
open Go
set_option maxRecDepth 100000
noncomputable section
def VOk (v:Va):Prop:=v.I.length<1048577∧v.L.length<1048577∧v.s.length<9223372036854775808
abbrev K9 (s:List Nat):Prop:=s.length<9223372036854775808
structure Lx (a:Ac):Prop where
 nm:K9 a.name
 fl:a.fields.length<1048577
 me:a.methods.length<1048577
 ff:∀f∈a.fields,K9 f.name∧VOk f.init
 mm:∀m∈a.methods,K9 m.name∧m.params.length<1048577∧m.nodes.length<1048577∧(∀q∈m.params,K9 q.name)∧∀x∈m.nodes,K9 x.name∧x.kids.length<1048577∧VOk x.v
theorem Lx.z {a:Ac}(h:Lx a):GQ 1048577 a:=⟨h.fl,h.me,fun f hf=>⟨(h.ff f hf).2.1,(h.ff f hf).2.2.1⟩,fun m hm=>⟨(h.mm m hm).2.1,(h.mm m hm).2.2.1,fun x hx=>⟨((h.mm m hm).2.2.2.2 x hx).2.1,((h.mm m hm).2.2.2.2 x hx).2.2.1,((h.mm m hm).2.2.2.2 x hx).2.2.2.1⟩⟩⟩
theorem Lx.s {a:Ac}(h:Lx a):We 9223372036854775808 a:=⟨⟨h.nm,h.nm⟩,fun f hf=>⟨(h.ff f hf).1,(h.ff f hf).1⟩,fun m hm=>⟨⟨(h.mm m hm).1,(h.mm m hm).1⟩,fun q hq=>⟨(h.mm m hm).2.2.2.1 q hq,(h.mm m hm).2.2.2.1 q hq⟩,fun x hx=>⟨⟨((h.mm m hm).2.2.2.2 x hx).1,((h.mm m hm).2.2.2.2 x hx).1⟩,⟨((h.mm m hm).2.2.2.2 x hx).2.2.2.2,((h.mm m hm).2.2.2.2 x hx).2.2.2.2⟩⟩⟩⟩
theorem adP {n:Nat}{xs:List Da}(h:CT (n+3) 67 xs):∃v:Va,xs=v.cs∧VOk v:=by
 obtain⟨_,_,rfl,h1,_,_,rfl,h2,_,_,rfl,h3,_,_,rfl,h4,_,_,rfl,h5,rfl⟩:=Fm ag5 h;obtain⟨k,rfl,_⟩:=sH isI h1;obtain⟨m,rfl,_⟩:=sH isI h2;obtain⟨s,rfl,hs⟩:=qw isS h3;obtain⟨I,rfl,hI⟩:=X0 h4;obtain⟨L,rfl,hL⟩:=aez h5;exact⟨⟨k,m,s,I,L⟩,rfl,by show I.length<_;omega,by show L.length<_;omega,hs⟩
theorem afw {n:Nat}{x:Da}(h:DT (n+4) 69 x):∃a:No,x=a.e∧K9 a.name∧a.kids.length<1048577∧VOk a.v:=by
 obtain⟨cs,rfl,g⟩:=zn Zn h;obtain⟨_,_,rfl,h1,_,_,rfl,h2,_,_,rfl,h3,_,_,rfl,h4,rfl⟩:=Fm Zn g;obtain⟨k,rfl,_⟩:=sH isI h1;obtain⟨s,rfl,hs⟩:=qw isS h2;obtain⟨v,rfl,hv⟩:=adP h3;obtain⟨I,rfl,hI⟩:=X0 h4;exact⟨⟨k,s,v,I⟩,rfl,hs,by show I.length<_;omega,hv⟩
theorem ag9 {n:Nat}{x:Da}(h:DT (n+2) 76 x):∃a:Pa,x=a.e∧K9 a.name:=by
 obtain⟨cs,rfl,g⟩:=zn adM h;obtain⟨_,_,rfl,h1,_,_,rfl,h2,rfl⟩:=Fm adM g;obtain⟨s,rfl,hs⟩:=qw isS h1;obtain⟨k,rfl,_⟩:=sH isI h2;exact⟨⟨s,k⟩,rfl,hs⟩
theorem ag7 {n:Nat}{x:Da}(h:DT (n+4) 74 x):∃a:Fe,x=a.e∧K9 a.name∧VOk a.init:=by
 obtain⟨cs,rfl,g⟩:=zn adK h;obtain⟨_,_,rfl,h1,_,_,rfl,h2,_,_,rfl,h3,rfl⟩:=Fm adK g;obtain⟨s,rfl,hs⟩:=qw isS h1;obtain⟨k,rfl,_⟩:=sH isI h2;obtain⟨v,rfl,hv⟩:=adP h3;exact⟨⟨s,k,v⟩,rfl,hs,hv⟩
theorem ag8 {n:Nat}{x:Da}(h:DT (n+6) 72 x):∃a:Me,x=a.e∧K9 a.name∧a.params.length<1048577∧a.nodes.length<1048577∧(∀q∈a.params,K9 q.name)∧∀x∈a.nodes,K9 x.name∧x.kids.length<1048577∧VOk x.v:=by
 obtain⟨cs,rfl,g⟩:=zn adL h;obtain⟨_,_,rfl,h1,_,_,rfl,h2,_,_,rfl,h3,_,_,rfl,h4,rfl⟩:=Fm adL g;obtain⟨s,rfl,hs⟩:=qw isS h1;obtain⟨ps,rfl,hp,h2⟩:=Fl aft h2;obtain⟨k,rfl,_⟩:=sH isI h3;obtain⟨ns,rfl,hl,h4⟩:=Fl ach h4;obtain⟨ps,rfl,hq⟩:=k7 (f:=Pa.e) (Q:=fun a=>K9 a.name) (es:=ps) fun x hx=>ag9 (h2 x hx)
 obtain⟨ns,rfl,hv⟩:=k7 (f:=No.e) (Q:=fun a=>K9 a.name∧a.kids.length<1048577∧VOk a.v) (es:=ns) fun x hx=>afw (h4 x hx)
 rw[lβ]at hp hl;replace hp:ps.length≤1048576:=hp;replace hl:ns.length≤1048576:=hl;exact⟨⟨s,ps,k,ns⟩,rfl,hs,by show ps.length<_;omega,by show ns.length<_;omega,hq,hv⟩
theorem aii {n:Nat}{x:Da}(h:DT (n+8) 44 x):∃a:Ac,x=a.e∧Lx a:=by
 obtain⟨cs,rfl,g⟩:=zn ag0 h;obtain⟨_,_,rfl,h1,_,_,rfl,h2,_,_,rfl,h3,rfl⟩:=Fm ag0 g;obtain⟨s,rfl,hs⟩:=qw isS h1;obtain⟨fs,rfl,hf,h2⟩:=Fl afr h2;obtain⟨ms,rfl,hm,h3⟩:=Fl afs h3;obtain⟨fs,rfl,hv⟩:=k7 (f:=Fe.e) (Q:=fun a=>K9 a.name∧VOk a.init) (es:=fs) fun x hx=>ag7 (h2 x hx)
 obtain⟨ms,rfl,hw⟩:=k7 (f:=Me.e) (Q:=fun a=>K9 a.name∧a.params.length<1048577∧a.nodes.length<1048577∧(∀q∈a.params,K9 q.name)∧∀x∈a.nodes,K9 x.name∧x.kids.length<1048577∧VOk x.v) (es:=ms) fun x hx=>ag8 (h3 x hx)
 rw[lβ]at hf hm;replace hf:fs.length≤1048576:=hf;replace hm:ms.length≤1048576:=hm;exact⟨⟨s,fs,ms⟩,rfl,⟨hs,by show fs.length<_;omega,by show ms.length<_;omega,hv,hw⟩⟩
theorem afx {n:Nat}{x:Da}(h:DT (n+10) 24 x):∃p:List Ac,.p x=pD p∧p.length<1048577∧∀a∈p,Lx a:=by
 obtain⟨cs,rfl,g⟩:=zn adN h;obtain⟨_,_,rfl,h1,rfl⟩:=Fm adN g;obtain⟨ts,rfl,hl,h1⟩:=Fl ag1 h1;obtain⟨p,rfl,hp⟩:=k7 (f:=Ac.e) (Q:=Lx) (es:=ts) fun x hx=>aii (h1 x hx)
 rw[lβ]at hl;replace hl:p.length≤1048576:=hl;exact⟨p,rfl,by omega,hp⟩
theorem aha {n:Nat}{x:Da}(h:DT (n+1) 9 x):∃s,x= .str s∧K9 s:=by
 obtain⟨s,e,hs⟩:=qw isS (Sk isS h);simp only[lκ,and_true]at e;exact⟨s,e,hs⟩
theorem tz {b:Nat}{p:List Ac}(h:cw p=true)(hz:∀a∈p,GQ b a)(hb:b≤1000000000000):IG p:=⟨(HV h hz hb).1,(HV h hz hb).2⟩
theorem Xh {p:List Ac}(h:cw p=false):Lr p= .bad 0 0 0 1:=by unfold Lr;rw[h];rfl
theorem T6 {n b:Nat}(p:List Ac)(hz:∀a∈p,GQ b a)(hb:b≤1000000000000):evFn lay0.tab (n+9009) 18 [pD p] []=some (.tup [.p (Lr p).pl.e,.p (.int .i64 (Lr p).er)],[]):=by
 cases hv:cw p with
 |true=>exact Wz p (tz hv hz hb)
 |false=>
  have h0:=LF (n:=n+7496) p hz hb;rw[hv]at h0;have h1:evFn lay0.tab (n+9008) 53 [pD p] []=some (.tup [.p .nilptr,.p (plD 0 0 0),.p (.int .i64 1)],[]):=by
   apply za (n+9007) ⟨p.map Ac.e⟩;unfold oI;rw[show(D.p (af.e ⟨p.map Ac.e⟩))= .p (.agg [.slice 3 (p.map Ac.e)])from rfl];simp only[aa h0,ba,aD,aC];rfl
  rw[Xh hv];apply Mm (n+9008) ⟨p.map Ac.e⟩;unfold vM;show bq lay0.tab (n+9008) 53 [pD p] [] _=_;simp only[aa h1,bQ,hH,ba,aC,bF,dPl,aew,aev,dBx,aeY,aeX,bG,aD];rfl
theorem LA {n b:Nat}(p:List Ac)(hz:∀a∈p,GQ b a)(hbb:b≤1000000000000)(hbn:b≤n+4498)(hs:∀a∈p,We n a)(hb:n≤200000000000000000000):ChkOut (Bq p) (evFn lay0.tab (n+4509) 78 [pD p] []):=by
 cases hv:cw p with
 |true=>exact PE p (tz hv hz hbb) hs hb
 |false=>
  suffices hS:ChkOut (Bq p) (jL (bq lay0.tab (n+4508)) (n+4508) ⟨p.map Ac.e⟩) by
   obtain⟨pl,e,h1,h2⟩:=hS;exact⟨pl,e,Dy (n+4508) ⟨p.map Ac.e⟩ _ h1,h2⟩
  have e1:=aa (CD (n:=n+1) p hz hbb (by omega) (fun a ha=>(hs a ha).mono (by omega)) (by omega));unfold jL Bq;rw[show(D.p (af.e ⟨p.map Ac.e⟩))= .p (.agg [.slice 3 (p.map Ac.e)])from rfl,e1];simp only[ba,aD,aC,hv];exact⟨⟨0,0,0⟩,1,rfl,by simp⟩
theorem aaX {b:Nat}{p:List Ac}(hz:∀a∈p,GQ b a)(hb:b≤1000000000000):(Lr p).er=0↔Bq p=true:=by
 cases hv:cw p with
 |true=>exact(aek (tz hv hz hb)).1
 |false=>
  rw[Xh hv];unfold Bq;rw[hv];exact⟨fun e=>(by cases e),fun e=>(by cases e)⟩
def S7 (p:List Ac):Bool:=Bq p
theorem agT {b:Nat}{p:List Ac}(hz:∀a∈p,GQ b a)(hb:b≤1000000000000):aw (Lr p).er 0=S7 p:=by
 have:=aaX hz hb;unfold S7;rw[aT,mδ,lη];exact this
theorem ZX {p:List Ac}(h:S7 p=true):cw p=true:=by
 unfold S7 Bq at h;rw[lδ]at h;exact h.1
end
end Go.Ab
end
section
namespace Go.Ab
open Go
set_option maxRecDepth 100000
noncomputable section
theorem ahH:∃x,lay0.tab 76=some (.both (iC 1 8) x):=⟨(jY prog0 globs0 gT 76).getD ⟨.skip,[],false⟩,by kernel_rfl⟩
theorem ahI:∃x,lay0.tab 77=some (.both (iC 1 16) x):=⟨(jY prog0 globs0 gT 77).getD ⟨.skip,[],false⟩,by kernel_rfl⟩
theorem ahG:∃x,lay0.tab 41=some (.both (j2 7 104) x):=⟨(jY prog0 globs0 gT 41).getD ⟨.skip,[],false⟩,by kernel_rfl⟩
theorem E3 {n b:Nat}(h:n<1501)(hb:b≤200):jD n b=true:=by
 unfold jD;rw[lδ,Nat.ble_eq,Nat.ble_eq];refine⟨?_,by omega⟩
 have:=Nat.mul_le_mul (show 2*(0+n)+192≤4000 by omega) hb;omega
theorem agD {n f z b:Nat}(l:List Da)(ht:∃x,lay0.tab f=some (.both (iC z b) x))(hr:jD l.length b=true):evFn lay0.tab (n+1) f [.p (.slice z l)] []=some (.p (.slice z l),[]):=by
 obtain⟨x,hx⟩:=ht;unfold evFn;rw[hx];show iC z b [.slice z l]=_;show(bif Nat.beq z z&&jD l.length b then some (D.p (.slice z l),([]:List Ob))else none)=_;rw[hr,Nat.beq_refl];rfl
theorem agE {n:Nat}(l:List Da)(h:l.length<1501):evFn lay0.tab (n+1) 41 [.p (.slice 7 l)] []=some (.arr 0 0 l.length 7,[.arr l]):=by
 obtain⟨x,hx⟩:=ahG;unfold evFn;rw[hx];show j2 7 104 [.slice 7 l]=_;show(bif Nat.beq 7 7&&jD l.length 104 then some (D.arr 0 0 l.length 7,[Ob.arr l])else none)=_;rw[E3 h (by omega)];rfl
theorem TZ {n:Nat}(v:Va)(hI:v.I.length<1501)(hL:v.L.length<1501):evFn lay0.tab (n+2) 42 [.p (.agg v.c)] []=some (.p (.agg v.c),[]):=by
 apply Uv (n+1) v.r;have h1:=aa (agD (n:=n) (v.I.map iE) ahH (E3 (by simpa using hI) (by omega)));have h2:=aa (agD (n:=n) (v.L.map Da.str) ahI (E3 (by simpa using hL) (by omega)));simp only[yQ,Va.r,h1,h2,ba,MS,aC];rfl
theorem TT {n:Nat}(v:Va)(hI:v.I.length<1501)(hL:v.L.length<1501):evFn lay0.tab (n+1) 79 [.p (.agg v.c)] []=some (.p (.agg v.c),[]):=by
 apply Un n v.r;have h1:dW (0+List.length (v.I.map iE)) 8=true:=qh (by simp;omega) (by omega);have h2:dW (0+List.length (v.L.map Da.str)) 16=true:=qh (by simp;omega) (by omega);simp only[yI,Va.r,h1,h2,aO,List.drop_zero,List.take_length];rfl
theorem Z8 (fs:List Fe)(i:Nat)(h:i<fs.length):(fs.map Fe.e).set i fs[i].e=fs.map Fe.e:=by
 have:fs[i].e=(fs.map Fe.e)[i]'(by simpa using h):=by simp
 rw[this,List.set_getElem_self]
theorem adI (fs:List Fe)(i:Nat)(h:i<fs.length):(fs.map Fe.e)[i]?=some fs[i].e:=by
 rw[lψ,lγ h];rfl
theorem adV (f:Fe):Da.agg (splice (cells (bI.e f.r)) 2 (cells (Da.agg f.init.c)))=f.e:=rfl
abbrev FSz (fs:List Fe):Prop:=fs.length<1501∧∀f∈fs,SzF f
theorem O9 {m:Nat}(s0 s1:LN)(fs:List Fe)(hz:FSz fs)(k0:Int×Int×Bool×(LN)×(LN)×Nat×LD→R):∀(e q i:Nat),i+e=fs.length→e<q→
  L_schemaOf_2 (bq lay0.tab (m+2)) (m+2) k0 q ((fs.length:Int),(i:Int),s0,s1,fs.length,fs.map Fe.e)=k0 ((fs.length:Int),(fs.length:Int),false,s0,s1,fs.length,fs.map Fe.e)
 |0,q+1,i,h,_=>by
  obtain rfl:i=fs.length:=by omega
  rw[t6];simp only[jr,cb,aQ]
 |e+1,q+1,i,h,hq=>by
  have hi:i<fs.length:=by omega
  have hf:=hz.2 fs[i] (lι _);have hl:=hz.1;have e1:=aa (TZ (n:=m) fs[i].init hf.iv hf.lv);rw[t6];have hp:=adV fs[i];simp only[Va.c]at e1 hp;simp only[jr,cK (show((i:Int)<(fs.length:Int)) by omega),aO,bJ,show(0:Int)≤(i:Int) by omega,decide_true,Int.toNat_natCast,Nat.zero_add,adI fs i hi,bf,dFe,show ∀f:Fe,f.r.Init_Kind=f.init.k from fun _=>rfl,show ∀f:Fe,f.r.Init_N=f.init.n from fun _=>rfl,show ∀f:Fe,f.r.Init_S=f.init.s from fun _=>rfl,show ∀f:Fe,f.r.Init_I=f.init.I.map iE from fun _=>rfl,show ∀f:Fe,f.r.Init_L=f.init.L.map .str from fun _=>rfl,e1,ba,aC,show ∀(k n:Int) (s:LN) (I L:LD) (K:aG→R),cG (.agg [.int .i64 k,.int .i64 n,.str s,.slice 1 I,.slice 1 L]) K=K ⟨k,n,s,I,L⟩from fun _ _ _ _ _ _=>rfl,hp,Z8 fs i hi,wS (show i<bZ by unfold bZ;omega)];exact O9 s0 s1 fs hz k0 e q (i+1) (by omega) (by omega)
theorem OI {m:Nat}(s0 s1:LN)(fs:List Fe)(hz:FSz fs)(k0:Int×Bool×(LN)×Nat×LD×(LN)→R):∀(e q i:Nat),i+e=fs.length→e<q→
  L_r36Copy_1 (bq lay0.tab (m+2)) (m+2) k0 q ((i:Int),s0,fs.length,fs.map Fe.e,s1)=k0 ((fs.length:Int),false,s0,fs.length,fs.map Fe.e,s1)
 |0,q+1,i,h,_=>by
  obtain rfl:i=fs.length:=by omega
  rw[vY];simp only[kI,cb,aQ]
 |e+1,q+1,i,h,hq=>by
  have hi:i<fs.length:=by omega
  have hf:=hz.2 fs[i] (lι _);have hl:=hz.1;have e1:=aa (TT (n:=m+1) fs[i].init hf.iv hf.lv);rw[vY];have hp:=adV fs[i];simp only[Va.c]at e1 hp;simp only[kI,cK (show((i:Int)<(fs.length:Int)) by omega),aO,bJ,show(0:Int)≤(i:Int) by omega,decide_true,Int.toNat_natCast,Nat.zero_add,adI fs i hi,bf,dFe,show ∀f:Fe,f.r.Init_Kind=f.init.k from fun _=>rfl,show ∀f:Fe,f.r.Init_N=f.init.n from fun _=>rfl,show ∀f:Fe,f.r.Init_S=f.init.s from fun _=>rfl,show ∀f:Fe,f.r.Init_I=f.init.I.map iE from fun _=>rfl,show ∀f:Fe,f.r.Init_L=f.init.L.map .str from fun _=>rfl,e1,ba,aC,show ∀(k n:Int) (s:LN) (I L:LD) (K:aG→R),cG (.agg [.int .i64 k,.int .i64 n,.str s,.slice 1 I,.slice 1 L]) K=K ⟨k,n,s,I,L⟩from fun _ _ _ _ _ _=>rfl,hp,Z8 fs i hi,wS (show i<bZ by unfold bZ;omega)];exact OI s0 s1 fs hz k0 e q (i+1) (by omega) (by omega)
def scE (nm:LN)(fs:List Fe):Da:= .agg [.str nm,.slice 7 (fs.map Fe.e)]
theorem TU {n:Nat}(nm:LN)(fs:List Fe)(hz:FSz fs):evFn lay0.tab (n+1503) 44 [.p (scE nm fs)] []=some (.p (scE nm fs),[]):=by
 apply Uo (n+1502) ⟨nm,fs.map Fe.e⟩;have hl:=hz.1;have h1:dW (0+fs.length) 104=true:=qh (by omega) (by omega);have h2:=OI (m:=n+1500) nm [] fs hz (fun(i14,b15,s16,n17,l18,s19)=>some ((.p (.agg [(.str s16),(.slice 7 (List.take n17 (List.drop 0 l18)))])),[])) fs.length (n+1502) 0 (by omega) (by omega)
 simp only[yJ,lβ,h1,aO];refine h2.trans ?_;show some (D.p (.agg [.str nm,.slice 7 (List.take fs.length (List.drop 0 (fs.map Fe.e)))]),_)=_;rw[List.drop_zero,mι (by simp)];rfl
def ofT (p:List Ac)(nm:LN):Option Ac:=bif S7 p then(p.findIdx? fun a=>aK a.name nm).bind (fun j=>p[j]?)else none
def ofD (nm:LN):Option Ac→D
 |some a=> .tup [.p (scE nm a.fields),.p (.bool true)]
 |none=> .tup [.p (scE [] []),.p (.bool false)]
theorem agQ (u:bo)(K:bo→R):cF u.e K=K u:=rfl
theorem LG {n b:Nat}(p:List Ac)(hz:∀a∈p,GQ b a)(hb:b≤1000000000000):evFn lay0.tab (n+9010) 40 [pD p] []=some (.p (.bool (S7 p)),[]):=by
 apply Mk (n+9009) ⟨p.map Ac.e⟩;have h1:=aa (T6 (n:=n) p hz hb);unfold rb;rw[show((D.p (af.e ⟨p.map Ac.e⟩)))=pD p from rfl];simp only[h1,bQ,hH,ba,aC,bF,agQ,agT hz hb,bt,dH]
theorem fsz {b:Nat}{p:List Ac}(h:S7 p=true)(hz:∀a∈p,GQ b a)(hb:b≤1000000000000):p.length<1501∧∀a∈p,FSz a.fields:=
 have:=tz (ZX h) hz hb
 ⟨this.ty,fun a ha=>⟨(this.ac a ha).fl,(this.ac a ha).ff⟩⟩
theorem PH {n b:Nat}(p:List Ac)(nm:LN)(hz:∀a∈p,GQ b a)(hb:b≤1000000000000):evFn lay0.tab (n+9011) 10 [pD p,.p (.str nm)] []=some (ofD nm (ofT p nm),[]):=by
 apply Qj (n+9010) ⟨p.map Ac.e⟩ nm;have h1:=aa (LG (n:=n) p hz hb);unfold uM ofT;rw[show((D.p (af.e ⟨p.map Ac.e⟩)))=pD p from rfl];simp only[h1,ba,aD,aC,lβ];cases hk:S7 p with
 |false=>rfl
 |true=>
  obtain⟨hl,hf⟩:=fsz hk hz hb;simp only[Bool.not_true,aQ,cond_true];refine(aV p (fun q i=>lC _ (n+9010) _ _ q (nm,p.map Ac.e,(p.length:Int),i,[])) (fun a=>aK a.name nm) (fun i=>some (ofD nm p[i]?,[])) (some (ofD nm none,[])) (fun q i hi=>?_) (fun q=>?_) (by omega)).trans ?_
  ·rw[t5];have e1:=aa (agE (n:=n+9009) (p[i].fields.map Fe.e) (by have:=(hf p[i] (lι _)).1;simpa using this));have e2:=fun k0=>O9 (m:=n+9008) [] nm p[i].fields (hf p[i] (lι _)) k0 p[i].fields.length (n+9010) 0 (by omega) (by have:=(hf p[i] (lι _)).1;omega)
   simp only[show((0:Nat):Int)=0 from rfl]at e2;simp only[jq,cK (show((i:Int)<(p.length:Int)) by omega),aO,aE,aP,aM hi,bf,QE,show p[i].r.Name=p[i].name from rfl,show p[i].r.Fields=p[i].fields.map Fe.e from rfl,wS (show i<bZ by unfold bZ;omega),e1,lβ,show ∀(l:Nat) (K:Nat→Nat→R),MQ 0 7 (.arr 0 0 l 7) K=K 0 l from fun _ _=>rfl,show Nat.beq 0 0=true from rfl,hH,aC,show ∀(l:LD) (K:LD→R),EC (Ob.arr l) K=K l from fun _ _=>rfl,e2];refine Eq.trans (congrArg (fun z=>iL _ z _) ?_) (dq _ _ _);rw[lγ hi,List.drop_zero,mι (by simp)];rfl
  ·rw[t5];simp only[jq,cb,aQ];rfl
  ·cases p.findIdx? fun a=>aK a.name nm<;>rfl
theorem LE {n b:Nat}(p:List Ac)(hz:∀a∈p,GQ b a)(hbb:b≤1000000000000)(hbn:b≤n+4498)(hs:∀a∈p,We n a)(hb:n≤200000000000000000000):evFn lay0.tab (n+4510) 43 [pD p] []=some (.p (.bool (S7 p)),[]):=by
 apply Mj (n+4509) ⟨p.map Ac.e⟩;obtain⟨pl,e,h1,h2⟩:=LA (n:=n) p hz hbb hbn hs hb;have he:aw e 0=S7 p:=by
  unfold S7;rw[aT,mδ,lη];exact h2
 unfold ra;rw[show((D.p (af.e ⟨p.map Ac.e⟩)))=pD p from rfl];simp only[aa h1,bQ,hH,ba,aC,bF,agQ,he,bt,dH]
theorem aaA {n b:Nat}(p:List Ac)(nm:LN)(hz:∀a∈p,GQ b a)(hbb:b≤1000000000000)(hbn:b≤n+4498)(hs:∀a∈p,We n a)(hb:n≤200000000000000000000):evFn lay0.tab (n+4511) 11 [pD p,.p (.str nm)] []=some (ofD nm (ofT p nm),[]):=by
 apply aaL (n+4510) ⟨p.map Ac.e⟩ nm;have h1:=aa (LE (n:=n) p hz hbb hbn hs hb);unfold Ij ofT;rw[show((D.p (af.e ⟨p.map Ac.e⟩)))=pD p from rfl];simp only[h1,ba,aD,aC];cases hk:S7 p with
 |false=>rfl
 |true=>
  obtain⟨hl,hf⟩:=fsz hk hz hbb;simp only[aO,cond_true];refine(aV p (fun q i=>sQ _ (n+4510) _ _ q (nm,i,⟨p.map Ac.e⟩,[])) (fun a=>aK a.name nm) (fun i=>some (ofD nm p[i]?,[])) (some (ofD nm none,[])) (fun q i hi=>?_) (fun q=>?_) (by omega)).trans ?_
  ·rw[Dr];have e1:=aa (TU (n:=n+3007) nm p[i].fields (hf p[i] (lι _)));simp only[scE]at e1;simp only[oS,lβ,cK (show((i:Int)<(p.length:Int)) by omega),aO,aE,aP,aM hi,bf,QE,show p[i].r.Name=p[i].name from rfl,show p[i].r.Fields=p[i].fields.map Fe.e from rfl,wS (show i<bZ by unfold bZ;omega),e1,ba,aC,show ∀(s:LN) (l:LD) (K:bC→R),bY (.agg [.str s,.slice 7 l]) K=K ⟨s,l⟩from fun _ _ _=>rfl];refine Eq.trans (congrArg (fun z=>iL _ z _) ?_) (dq _ _ _);rw[lγ hi];rfl
  ·rw[Dr];simp only[oS,lβ,cb,aQ];rfl
  ·cases p.findIdx? fun a=>aK a.name nm<;>rfl
theorem M3 (s:LN):aK s s=true:=by rw[dn];simp
theorem GK {n:Nat}(nm:LN)(fs:List Fe)(hz:FSz fs):evFn lay0.tab (n+1504) 12 [.p (scE nm fs),.p (scE nm fs)] []=some (.p (.bool true),[]):=by
 apply Up (n+1503) ⟨nm,fs.map Fe.e⟩ ⟨nm,fs.map Fe.e⟩;have hl:=hz.1;unfold yL;simp only[M3,aT,decide_true,Bool.not_true,aQ];refine(aV fs (fun q i=>nC _ (n+1503) _ _ q (i,⟨nm,fs.map Fe.e⟩,⟨nm,fs.map Fe.e⟩)) (fun _=>false) (fun _=>some (.p (.bool false),[])) (some (.p (.bool true),[])) (fun q i hi=>?_) (fun q=>?_) (by omega)).trans ?_
 ·rw[vZ];have hf:=hz.2 fs[i] (lι _);have e1:=aa (gx (n:=n+1501) fs[i].init fs[i].init (by have:=hf.iv;omega) (by have:=hf.lv;omega) (by have:=hf.iv;omega) (by have:=hf.lv;omega));simp only[Va.c,HQ]at e1;simp only[kJ,lβ,cK (show((i:Int)<(fs.length:Int)) by omega),aO,aE,aP,aM hi,bf,dFe,M3,aT,decide_true,Bool.not_true,aQ,show ∀f:Fe,f.r.Init_Kind=f.init.k from fun _=>rfl,show ∀f:Fe,f.r.Init_N=f.init.n from fun _=>rfl,show ∀f:Fe,f.r.Init_S=f.init.s from fun _=>rfl,show ∀f:Fe,f.r.Init_I=f.init.I.map iE from fun _=>rfl,show ∀f:Fe,f.r.Init_L=f.init.L.map .str from fun _=>rfl,e1,ba,aD,aC,wS (show i<bZ by unfold bZ;omega)];rfl
 ·rw[vZ];simp only[kJ,lβ,cb,aQ]
 ·have:fs.findIdx? (fun _=>false)=none:=by
   rw[mτ];simp
  rw[this]
end
end Go.Ab
end
section
namespace Go.Ab
open Go
set_option maxRecDepth 100000
noncomputable section
theorem TM {n:Nat}:evFn lay0.tab (n+1) 8 [] []=some (.p (.bool true),[]):=by kernel_rfl
def unI:Da→Int| .int _ i=>i|_=>0
def unS:Da→List Nat| .str s=>s|_=>[]
def TE:Da→List Da| .slice _ l=>l| .agg l=>l|_=>[]
def ait (x:Da):Fe:=match TE x with|[a,b,k,n,s,I,L]=>⟨unS a,unI b,⟨unI k,unI n,unS s,(TE I).map unI,(TE L).map unS⟩⟩|_=>⟨[],0,⟨0,0,[],[],[]⟩⟩
def aiv (x:Da):No:=match TE x with|[a,b,k,n,s,I,L,c]=>⟨unI a,unS b,⟨unI k,unI n,unS s,(TE I).map unI,(TE L).map unS⟩,(TE c).map unI⟩|_=>⟨0,[],⟨0,0,[],[],[]⟩,[]⟩
def aiw (x:Da):Pa:=match TE x with|[a,b]=>⟨unS a,unI b⟩|_=>⟨[],0⟩
def aiu (x:Da):Me:=match TE x with|[a,b,c,d]=>⟨unS a,(TE b).map aiw,unI c,(TE d).map aiv⟩|_=>⟨[],[],0,[]⟩
def ais (x:Da):Ac:=match TE x with|[a,b,c]=>⟨unS a,(TE b).map ait,(TE c).map aiu⟩|_=>⟨[],[],[]⟩
def ad3:List Da:=match XA with|some (.p (.slice _ l),_)=>l|_=>[]
def B1 (j:Nat):List Ac:=match ad3[j]? with|some (.agg (.slice _ l::_))=>l.map ais|_=>[]
def aap (j:Nat):LD:=match ad3[j]? with|some (.agg [_,.slice _ l])=>l|_=>[]
theorem ad6 {n:Nat}:evFn lay0.tab (n+1) 9 [] []=some (.p (.slice 2 [.agg [.slice 3 ((B1 0).map Ac.e),.slice 2 (aap 0)],.agg [.slice 3 ((B1 1).map Ac.e),.slice 2 (aap 1)]]),[]):=by kernel_rfl
def sB (s:LN):Bool:=Nat.blt s.length 9223372036854775808
def nB (n:Nat):Bool:=Nat.blt n 1048577
def vB (v:Va):Bool:=nB v.I.length&&(nB v.L.length&&sB v.s)
def aB (a:Ac):Bool:=sB a.name&&(nB a.fields.length&&(nB a.methods.length&&((a.fields.all fun f=>sB f.name&&vB f.init)&&a.methods.all fun m=>sB m.name&&(nB m.params.length&&(nB m.nodes.length&&((m.params.all fun q=>sB q.name)&&m.nodes.all fun x=>sB x.name&&(nB x.kids.length&&vB x.v)))))))
theorem HP {s:LN}(h:sB s=true):K9 s:=Nat.le_of_ble_eq_true h
theorem Ez {n:Nat}(h:nB n=true):n<1048577:=Nat.le_of_ble_eq_true h
theorem ad2 {v:Va}(h:vB v=true):VOk v:=by
 unfold vB at h;simp only[lδ]at h;exact⟨Ez h.1,Ez h.2.1,HP h.2.2⟩
theorem ac9 {a:Ac}(h:aB a=true):Lx a:=by
 unfold aB at h;simp only[lδ,mη]at h;obtain⟨h1,h2,h3,h4,h5⟩:=h;exact⟨HP h1,Ez h2,Ez h3,fun f hf=>⟨HP (h4 f hf).1,ad2 (h4 f hf).2⟩,fun m hm=>⟨HP (h5 m hm).1,Ez (h5 m hm).2.1,Ez (h5 m hm).2.2.1,fun q hq=>HP ((h5 m hm).2.2.2.1 q hq),fun x hx=>⟨HP ((h5 m hm).2.2.2.2 x hx).1,Ez ((h5 m hm).2.2.2.2 x hx).2.1,ad2 ((h5 m hm).2.2.2.2 x hx).2.2⟩⟩⟩
theorem agA:(B1 0).all aB=true:=by kernel_rfl
theorem agB:(B1 1).all aB=true:=by kernel_rfl
theorem ac4:∀a∈B1 0,Lx a:=fun a ha=>ac9 (mη.1 agA a ha)
theorem ac5:∀a∈B1 1,Lx a:=fun a ha=>ac9 (mη.1 agB a ha)
theorem acJ {p:List Ac}{nm:LN}{a:Ac}(h:ofT p nm=some a):S7 p=true∧a∈p:=by
 unfold ofT at h;cases hk:S7 p with
 |false=>rw[hk]at h;cases h
 |true=>
  rw[hk]at h;simp only[cond_true]at h;cases hf:p.findIdx? fun a=>aK a.name nm with
  |none=>rw[hf]at h;cases h
  |some j=>
   rw[hf]at h;exact⟨rfl,mζ h⟩
def agt (nm:LN)(o:Option Ac):bC:=match o with|some a=>⟨nm,a.fields.map Fe.e⟩|none=>⟨[],[]⟩
theorem afR (nm:LN)(o:Option Ac):ofD nm o= .tup [.p (agt nm o).e,.p (.bool o.isSome)]:=by cases o<;>rfl
theorem ahU (u:bC)(K:bC→R):bY u.e K=K u:=rfl
theorem acU {n:Nat}{p:List Ac}(hb:∀a∈p,Lx a)(nm:LN):evFn lay0.tab (n+1504) 12 [.p (agt nm (ofT p nm)).e,.p (agt nm (ofT p nm)).e] []=some (.p (.bool true),[]):=by
 cases ho:ofT p nm with
 |none=>exact GK (n:=n) [] [] ⟨by simp,fun f hf=>by cases hf⟩
 |some a=>
  obtain⟨h1,h2⟩:=acJ ho;exact GK (n:=n) nm a.fields ((fsz h1 (fun a ha=>(hb a ha).z) (by omega)).2 a h2)
theorem agG (x y:Da):bw [x,y] 0=some x:=rfl
theorem agH (x y:Da):bw [x,y] 1=some y:=rfl
theorem agR (l m:LD)(K:ew→R):gQ (.agg [.slice 3 l,.slice 2 m]) K=K ⟨l,m⟩:=rfl
theorem aay {n:Nat}(p:List Ac)(nm:LN)(own:Bool)(w:Int)(hb:∀a∈p,Lx a)(hw:0≤w∧w<256)(hn:9223372036854775808≤n)(hm:n+9000≤200000000000000000000):evFn lay0.tab (n+9013) 3 [pD p,.p (.str nm),.p (.bool own),.p (.int .u8 w)] []=some (.p (.bool true),[]):=by
 apply aaJ (n+9012) ⟨p.map Ac.e⟩ nm own w;have h1:=aa (TM (n:=n+9011));have h2:=aa (ad6 (n:=n+9011));have k1:=fun(p:List Ac) (hb:∀a∈p,Lx a) (nm:LN)=>aa (PH (n:=n+1) (b:=1048577) p nm (fun a ha=>(hb a ha).z) (by omega))
 have k2:=fun(p:List Ac) (hb:∀a∈p,Lx a) (nm:LN)=>aa (aaA (n:=n+4501) (b:=1048577) p nm (fun a ha=>(hb a ha).z) (by omega) (by omega) (fun a ha=>(hb a ha).s.mono (by omega)) (by omega))
 have k3:=fun(p:List Ac) (hb:∀a∈p,Lx a) (nm:LN)=>aa (acU (n:=n+7508) hb nm)
 have fin:∀(p:List Ac) (hb:∀a∈p,Lx a) (nm:LN),(bq lay0.tab (n+9012) 10 [pD p,.p (.str nm)] [] fun d39 o40=>
   bb d39 fun r41=>
   aI r41 fun d42 r43=>
   dP d42 fun x44=>
   bY x44 fun u45=>
   aI r43 fun d46 r47=>
   dP d46 fun x48=>
   aA x48 fun b49=>
   av r47<|
   av o40<|
   bq lay0.tab (n+9012) 11 [pD p,.p (.str nm)] [] fun d50 o51=>
   bb d50 fun r52=>
   aI r52 fun d53 r54=>
   dP d53 fun x55=>
   bY x55 fun u56=>
   aI r54 fun d57 r58=>
   dP d57 fun x59=>
   aA x59 fun b60=>
   av r58<|
   av o51<|
   iL (b49==b60)
    (bq lay0.tab (n+9012) 12 [(.p u45.e),(.p u56.e)] [] fun d61 o62=>
    dP d61 fun x63=>
    aA x63 fun b64=>
    av o62<|
    some ((.p (.bool b64)),[]))
    (some ((.p (.bool false)),[])))=some (.p (.bool true),[]):=by
  intro p hb nm;simp only[k1 p hb nm,k2 p hb nm,afR,bQ,hH,ba,aD,aC,ahU,beq_self_eq_true,aO,k3 p hb nm]
 unfold Ih;rw[show((D.p (af.e ⟨p.map Ac.e⟩)))=pD p from rfl];simp only[h1,ba,aD,aC,Bool.not_true,aQ,lβ];cases aW 5 (p.length:Int)
 ·simp only[aQ];cases own
  ·rw[aQ];exact fin p hb nm
  ·simp only[aO,h2,ba,MS,aC];have hv:∃m,∃hb:(∀a∈B1 m,Lx a),bw [Da.agg [.slice 3 ((B1 0).map Ac.e),.slice 2 (aap 0)],.agg [.slice 3 ((B1 1).map Ac.e),.slice 2 (aap 1)]] (Int.tmod w 2)=some (.agg [.slice 3 ((B1 m).map Ac.e),.slice 2 (aap m)]):=by
    rw[Int.tmod_eq_emod_of_nonneg hw.1];rcases Int.emod_two_eq w with h|h
    ·rw[h];exact⟨0,ac4,agG _ _⟩
    ·rw[h];exact⟨1,ac5,agH _ _⟩
   obtain⟨m,hbm,hv⟩:=hv;simp only[hv,bf,agR];by_cases h3:Int.tmod w 5<3
   ·have hs:∃s,bw [Da.str [65,99,99,111,117,110,116],Da.str [67,111,117,110,116,101,114],Da.str [78,111,98,111,100,121]] (Int.tmod w 5)=some (.str s):=by
     rw[Int.tmod_eq_emod_of_nonneg hw.1]at h3 ⊢
     have:w % 5=0∨w % 5=1∨w % 5=2:=by omega
     rcases this with h|h|h
     ·rw[h];exact⟨_,rfl⟩
     ·rw[h];exact⟨_,rfl⟩
     ·rw[h];exact⟨_,rfl⟩
    obtain⟨s,hs⟩:=hs;simp only[cK h3,aO,hs,bf,zl];exact fin (B1 m) hbm s
   ·simp only[vp h3,aQ];exact fin (B1 m) hbm nm
 ·rfl
end
end Go.Ab
end
section
namespace Go.Ab
open Go
set_option maxRecDepth 100000
noncomputable section
theorem call0_ok (L:Letters)(N:Nat):dR prog0 globs0 (evFn lay0.tab N):=wP (P:=prog0) (G:=globs0) zT (lay0.okM L mvG) N
theorem ag4:zF prog0 .u8 5=true:=by kernel_rfl
theorem ag2:w6 prog0 4=true:=by kernel_rfl
theorem YD {P:Program}{t:Nat}{x:Da}{C:TypeId→List Da→Prop}(h:w6 P t=true)(hc:jJ P C t x):C t [x]:=by
 unfold w6 at h;unfold jJ at hc;split at h
 ·rename_i hu;have:jZ P t=false:=by unfold jZ;rw[hu]
  rw[this]at hc;exact hc
 ·cases h
theorem ae0 {n:Nat}{x:Da}(h:DT (n+1) 4 x):∃b,x= .bool b:=by
 obtain⟨s,e⟩:=ac3 ag2 (YD ag2 h);simp only[lκ,and_true]at e;exact⟨s,e⟩
theorem ahV {n:Nat}{x:Da}(h:DT (n+1) 5 x):∃i,x= .int .u8 i∧0≤i∧i<256:=by
 obtain⟨s,e,hw⟩:=sH ag4 (Sj ag4 h);simp only[lκ,and_true]at e;simp only[Lit.wf,lδ,lη]at hw;have h1:IntKind.u8.min=0:=rfl;have h2:IntKind.u8.max=255:=rfl;rw[h1,h2]at hw;exact⟨s,e,by omega,by omega⟩
theorem run_SchemaOf:∀xs,Pw (jJ prog0 (cf prog0 Bn 12)) [24,9,4,5] xs→∃N,evFn lay0.tab N 3 (xs.map .p) []=some (.p (.bool true),[]):=by
 intro xs h;obtain⟨x1,r1,rfl,h1,h⟩:=h.cons_inv;obtain⟨x2,r2,rfl,h2,h⟩:=h.cons_inv;obtain⟨x3,r3,rfl,h3,h⟩:=h.cons_inv;obtain⟨x4,r4,rfl,h4,h⟩:=h.cons_inv;obtain rfl:=h.nil_inv;obtain⟨p,hp,hl,hb⟩:=afx (n:=2) h1;obtain⟨s,rfl,hs⟩:=aha (n:=11) h2;obtain⟨b,rfl⟩:=ae0 (n:=11) h3;obtain⟨w,rfl,hw⟩:=ahV (n:=11) h4;refine⟨9223372036854775808+9013,?_⟩;show evFn _ _ _ [.p x1,.p (.str s),.p (.bool b),.p (.int .u8 w)] []=_;rw[hp];exact aay (n:=9223372036854775808) p s b w hb hw (by omega) (by omega)
end
end Go.Ab
end
