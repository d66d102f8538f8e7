import Derived.Test.YtbgddkffhndjcaaGreatDoorAm1
import Derived.Laws.Externs
import Derived.Orders
set_option linter.all false
section
namespace Go.Ab
open Go
variable [Letters]
def Ren (σ:Nat→Option Nat)(φ φ':List cb):Prop:=∀i j,σ i=some j→∀l,φ[i]?=some l→l≠ .none→φ'[j]?=some l
mutual
theorem wO {σ:Nat→Option Nat}{φ φ':List cb}{w:World}{S:Nat→Prop}(hσ:Ren σ φ φ'):∀(d:D) {v:Value},VR φ w S d v→VR φ' w S (mapD σ d) v
 | .p x,v,h=>by simpa only[mapD,VR]using h
 | .agg ds,v,h=>by
  simp only[mapD,VR]at h ⊢
  obtain⟨vs,rfl,h1,h2⟩:=h;exact⟨vs,rfl,qD hσ ds h1,h2⟩
 | .tup ds,v,h=>by
  simp only[mapD,VR]at h ⊢
  obtain⟨vs,rfl,h1⟩:=h;exact⟨vs,rfl,qD hσ ds h1⟩
 | .box id off,v,h=>by
  simp only[mapD];split
  ·rename_i j hj;simp only[VR]at h ⊢
   obtain⟨b,h1,rfl⟩:=h;exact⟨b,hσ _ _ hj _ h1 (by simp),rfl⟩
  ·simp only[VR]
 | .el id i off,v,h=>by
  simp only[mapD];split
  ·rename_i j hj;simp only[VR]at h ⊢
   obtain⟨b,o,cap,z,n,h1,h2,rfl⟩:=h;exact⟨b,o,cap,z,n,hσ _ _ hj _ h1 (by simp),h2,rfl⟩
  ·simp only[VR]
 | .ip x off,v,h=>by simpa only[mapD,VR]using h
 | .arr id lo len z,v,h=>by
  simp only[mapD];split
  ·rename_i j hj;simp only[VR]at h ⊢
   obtain⟨b,o,cap,n,a,h1,h2⟩:=h;exact⟨b,o,cap,n,a,hσ _ _ hj _ h1 (by simp),h2⟩
  ·simp only[VR]
 | .sl g z es,v,h=>by simpa only[mapD,VR]using h
 | .map id,v,h=>by
  simp only[mapD];split
  ·rename_i j hj;simp only[VR]at h ⊢
   obtain⟨r,h1,rfl⟩:=h;exact⟨r,hσ _ _ hj _ h1 (by simp),rfl⟩
  ·simp only[VR]
 | .fn f caps,v,h=>by
  simp only[mapD,VR]at h ⊢
  obtain⟨fs,cs,rfl,hk,h1⟩:=h;exact⟨fs,cs,rfl,hk,qD hσ caps h1⟩
 | .iface t d,v,h=>by
  simp only[mapD,VR]at h ⊢
  obtain⟨u,rfl,h1⟩:=h;exact⟨u,rfl,wO hσ d h1⟩
 | .junk,v,h=>by simp only[mapD,VR]
theorem qD {σ:Nat→Option Nat}{φ φ':List cb}{w:World}{S:Nat→Prop}(hσ:Ren σ φ φ'):∀(ds:List D) {vs:List Value},ve φ w S ds vs→ve φ' w S (mapD.mapDL σ ds) vs
 |[],vs,h=>by simpa only[mapD.mapDL,ve]using h
 |d::r,vs,h=>by
  simp only[mapD.mapDL,ve]at h ⊢
  obtain⟨u,us,rfl,h1,h2⟩:=h;exact⟨u,us,rfl,wO hσ d h1,qD hσ r h2⟩
end
theorem Gw {σ:Nat→Option Nat}{φ φ':List cb}{w:World}{S:Nat→Prop}(hσ:Ren σ φ φ'){ds:List D}{vs:List Value}(h:Pw (VR φ w S) ds vs):Pw (VR φ' w S) (mapD.mapDL σ ds) vs:=
 VRs_iff.1 (qD hσ ds (VRs_iff.2 h))
theorem Vs (σ:Nat→Option Nat)(cs:List D)(h:b3 (mapD.mapDL σ cs)=true):b3 cs=true:=by
 have hl:∀cs:List D,(mapD.mapDL σ cs).length=cs.length:=fun cs=>by
  induction cs with
  |nil=>rfl
  |cons d r ih=>simp only[mapD.mapDL,List.length_cons,ih]
 unfold b3 at h ⊢
 rw[hl]at h;rw[lγ]at h ⊢
 refine⟨h.1,?_⟩;cases cs with
 |nil=>exact h.2
 |cons d r=>
  have h2:=h.2;simp only[mapD.mapDL]at h2;cases d with
  |p x=>cases x<;>first|rfl|exact absurd h2 (by simp[mapD,pH])
  |box i o=>rfl
  |agg ds=>simp only[mapD,pH]at h2;cases h2
  |tup ds=>simp only[mapD,pH]at h2;cases h2
  |el i j o=>simp only[mapD]at h2;split at h2<;>cases h2
  |ip x o=>simp only[mapD,pH]at h2;cases h2
  |arr i a b c=>simp only[mapD]at h2;split at h2<;>cases h2
  |sl g z es=>simp only[mapD,pH]at h2;cases h2
  |map i=>simp only[mapD]at h2;split at h2<;>cases h2
  |fn f ds=>simp only[mapD,pH]at h2;cases h2
  |iface t d=>simp only[mapD,pH]at h2;cases h2
  |junk=>simp only[mapD,pH]at h2;cases h2
theorem MS {σ:Nat→Option Nat}{φ φ':List cb}{w:World}{S:Nat→Prop}(hσ:Ren σ φ φ'){l:cb}{o:Ob}(h:OR φ w S l o):OR φ' w S l (bL σ o):=by
 cases o with
 |box cs=>
  cases l with
  |box b=>
   simp only[OR]at h;simp only[bL,OR];obtain⟨vs,t,fz,h1,h2,h3,h4,h5⟩:=h;exact⟨vs,t,fz,h1,h2,Gw hσ h3,h4,fun hh=>h5 (Vs σ cs hh)⟩
  |_=>simp only[OR]at h
 |arr es=>cases l<;>simpa only[OR,bL]using h
 |fz es=>cases l<;>simpa only[OR,bL]using h
 |byt es=>cases l<;>simpa only[OR,bL]using h
 |map ks vs=>cases l<;>simpa only[OR,bL]using h
 |fzm ks vs=>cases l<;>simpa only[OR,bL]using h
 |mapd ks vs=>
  cases l with
  |map r=>
   simp only[OR]at h;simp only[bL,OR];obtain⟨es,c,h1,h2,h3⟩:=h;exact⟨es,c,h1,h2,Gw hσ h3⟩
  |_=>simp only[OR]at h
 |dead=>cases l<;>simp only[OR,bL]
 |unborn=>cases l<;>simpa only[OR,bL]using h
theorem rx (σ:Nat→Option Nat)(l:cb)(o:Ob):bz l (bL σ o)=bz l o:=by
 cases o<;>cases l<;>rfl
theorem PT {id:Nat}:∀{ids:List Nat} {n j:Nat},idx.go id ids n=some j→n≤j∧ids[j - n]?=some id
 |[],n,j,h=>by simp[idx.go]at h
 |x::r,n,j,h=>by
  simp only[idx.go]at h;rw[beq_eq]at h;by_cases hx:x=id
  ·simp[hx]at h;subst h;simp[hx]
  ·simp[hx]at h;obtain⟨h1,h2⟩:=PT h;refine⟨by omega,?_⟩
   rw[show j - n=(j - (n+1))+1 by omega,List.getElem?_cons_succ];exact h2
theorem ED {ids:List Nat}{id j:Nat}(h:idx ids id=some j):ids[j]?=some id:=by
 have:=(PT (n:=0) h).2;simpa using this
theorem xy {id:Nat}:∀{ids:List Nat} {n:Nat},id∈ids→∃j,idx.go id ids n=some j
 |[],n,h=>by simp at h
 |x::r,n,h=>by
  simp only[idx.go];rw[beq_eq];by_cases hx:x=id
  ·simp[hx]
  ·simp only[hx,decide_false,cond_false];exact xy ((lψ.1 h).resolve_left fun e=>hx e.symm)
theorem AB {ids:List Nat}(h:ids.Nodup){i j x:Nat}(hi:ids[i]?=some x)(hj:ids[j]?=some x):i=j:=by
 have hlt:i<ids.length:=by
  rcases lν i ids.length with h1|h1
  ·exact h1
  ·simp[lε h1]at hi
 exact(List.getElem?_inj hlt h).1 (hi.trans hj.symm)
theorem Hk {ids:List Nat}(h:ids.Nodup){id k:Nat}(hk:ids[k]?=some id):idx ids id=some k:=by
 obtain⟨j,hj⟩:=xy (n:=0) (mξ hk);have hj':idx ids id=some j:=hj;rw[hj',AB h (ED hj') hk]
def ir (ids:List Nat)(φ:List cb):List cb:=ids.map fun i=>φ.getD i .none
theorem oh (ids:List Nat)(φ:List cb):Ren (idx ids) φ (ir ids φ):=by
 intro i j hj l hl _;have:=ED hj;simp[ir,this,hl]
section
variable {φ:List cb} {w:World} {S:Nat→Prop} {hp:List Ob}
theorem vw {ids:List Nat}(hr:HR φ w S hp){k:Nat}{l:cb}{o:Ob}(h1:(ir ids φ)[k]?=some l)(h2:(bB ids hp)[k]?=some o):∃i,ids[k]?=some i∧((φ[i]?=some l∧∃o0,hp[i]?=some o0∧o=bL (idx ids) o0)∨(φ[i]?=none∧l= .none∧o= .dead)):=by
 simp only[ir,bB,lσ,qβ]at h1 h2;obtain⟨i,hi,rfl⟩:=h1;obtain⟨i',hi',rfl⟩:=h2;rw[hi]at hi';simp at hi';subst hi';refine⟨i,hi,?_⟩;rcases lν i hp.length with hlt|hge
 ·have h3:i<φ.length:=by rw[hr.len];exact hlt
  refine .inl ⟨by simp[lδ h3],hp[i],lδ hlt,?_⟩
  rw[vB (lδ hlt)]
 ·have h3:φ.length≤i:=by rw[hr.len];exact hge
  refine .inr ⟨lε h3,by simp[lε h3],?_⟩
  simp[aP,lε hge,bL]
theorem pT {ids:List Nat}(hr:HR φ w S hp){b:Nat}(h:bf (ir ids φ) (bB ids hp) b):pq φ hp (· ∈ids) b:=by
 obtain⟨k,l,o,h1,h2,h3⟩:=h;obtain⟨i,hi,(⟨g1,o0,g2,rfl⟩|⟨_,rfl,rfl⟩)⟩:=vw hr h1 h2
 ·rw[rx]at h3;exact⟨i,l,o0,mξ hi,g1,g2,h3⟩
 ·simp[bz]at h3
theorem HR.shrink (hr:HR φ w S hp){ids:List Nat}(hnd:ids.Nodup):HR (ir ids φ) w S (bB ids hp) where
 len:=by simp[ir,bB]
 obj k l o h1 h2:=by
  obtain⟨i,hi,(⟨g1,o0,g2,rfl⟩|⟨_,rfl,rfl⟩)⟩:=vw hr h1 h2
  ·exact MS (oh ids φ) (hr.obj i l o0 g1 g2)
  ·simp only[OR]
 own b hb:=by
  obtain⟨i,l,o,_,h1,h2,h3⟩:=pT hr hb;exact hr.own b ⟨i,l,o,h1,h2,h3⟩
 one k k' l l' o o' b h1 h2 h1' h2' h3 h3':=by
  obtain⟨i,hi,(⟨g1,o0,g2,rfl⟩|⟨_,rfl,rfl⟩)⟩:=vw hr h1 h2
  ·obtain⟨i',hi',(⟨g1',o0',g2',rfl⟩|⟨_,rfl,rfl⟩)⟩:=vw hr h1' h2'
   ·rw[rx]at h3 h3';have:=hr.one i i' l l' o0 o0' b g1 g2 g1' g2' h3 h3';subst this;exact AB hnd hi hi'
   ·simp[bz]at h3'
  ·simp[bz]at h3
 low:=hr.low
theorem Ja (hr:HR φ w S hp)(ids:List Nat){b:Nat}(h:bf (ir ids φ) (bB ids hp) b):bf φ hp b:=by
 obtain⟨i,l,o,_,h1,h2,h3⟩:=pT hr h;exact⟨i,l,o,h1,h2,h3⟩
end
theorem ec {hp:List Ob}:∀(n:Nat) (ws acc:List Nat),acc.Nodup→(close hp n ws acc).Nodup∧acc <+: close hp n ws acc
 |0,ws,acc,h=>by simp only[close];exact⟨h,List.prefix_refl _⟩
 |n+1,[],acc,h=>by simp only[close];exact⟨h,List.prefix_refl _⟩
 |n+1,id::ws,acc,h=>by
  simp only[close];split
  ·exact ec n ws acc h
  ·rename_i hc;have hni:id∉acc:=by simpa using hc
   obtain⟨h1,h2⟩:=ec (hp:=hp) n (hO (hp.getD id .dead)++ws) (acc++[id]) (by
    rw[List.nodup_append];refine⟨h,by simp,?_⟩
    intro a ha b hb e;simp at hb;exact hni (hb▸e▸ha))
   exact⟨h1,(List.prefix_append _ _).trans h2⟩
theorem D3 {hp:List Ob}{n m:Nat}{ws:List Nat}{k:Nat}(hk:k<m):(close hp n ws (List.range m))[k]?=some k:=by
 obtain⟨r,hr⟩:=(ec (hp:=hp) n ws (List.range m) List.nodup_range).2;rw[←hr,lη (by simpa using hk)];simp[hk]
theorem Ap {hp:List Ob}{φ:List cb}{n m:Nat}{ws:List Nat}(hm:m≤φ.length){id:Nat}(hid:id<m):(ir (close hp n ws (List.range m)) φ)[id]?=φ[id]?:=by
 simp only[ir,lσ,D3 hid,Option.map_some];rw[lρ,lδ (by omega:id<φ.length)];rfl
theorem xv {out:List Nat}{f:D→D}{tm:Tm}{t:Nat}:get (eh out f tm) t=if t∈out then f (get tm t)else .junk:=by
 induction out with
 |nil=>simp[eh,get]
 |cons s r ih=>
  simp only[eh,get];rw[beq_eq];by_cases hs:s=t
  ·subst hs;simp
  ·have:t≠s:=fun e=>hs e.symm
   simp[hs,this,ih]
end Go.Ab
end
section
namespace Go.Ab
open Go
variable [Letters]
def RetOk (φ:List cb)(hp:List Ob)(w:World)(S:Nat→Prop)(r:D)(out:List Ob)(m:Nat):Ending→World→Prop
 | .returned v,w'=>∃φ' S',VR φ' w' S' r v∧HR φ' w' S' out∧Fr (bf φ hp) S w (bf φ' out) S' w'∧∀id,id<m→φ'[id]?=φ[id]?
 |_,_=>False
def dq (P : Program) (f : Nat) : Prop := ∃ fn, P.funcs[f]? = some fn ∧ fn.body.isNone = false ∧ (fn.name == "runtime.NumGoroutine") = false
def eV [Mv](P:Program)(G:bF)(call:aG):Prop:=
 ∀f ds hp r out,call f ds hp=some (r,out)→dq P f∧∀φ w S vs,HR φ w S hp→GR G w S→Pw (VR φ w S) ds vs→Calls P f vs.toArray w (RetOk φ hp w S r out (em f ds hp.length))
theorem rd [Mv](f:Nat)(ds:List D)(n:Nat):em f ds n≤n:=by
 unfold em;cases Mv.mv f
 ·exact Nat.le_refl _
 ·exact Nat.min_le_right _ _
theorem xB [Mv](f:Nat)(ds:List D):em f ds 0=0:=Nat.le_zero.1 (rd f ds 0)
theorem Ho [Mv]{f:Nat}(h:Mv.mv f=false)(ds:List D)(n:Nat):em f ds n=n:=by
 unfold em;rw[h];rfl
theorem RetOk.le {φ:List cb}{hp:List Ob}{w:World}{S:Nat→Prop}{r:D}{out:List Ob}{m m':Nat}(hm:m'≤m){e:Ending}{w':World}(h:RetOk φ hp w S r out m e w'):RetOk φ hp w S r out m' e w':=by
 cases e with
 |returned v=>
  obtain⟨φ',S',h1,h2,h3,h4⟩:=h;exact⟨φ',S',h1,h2,h3,fun id hid=>h4 id (by omega)⟩
 |panicked c=>exact h
 |outgrown=>exact h
section
variable {P:Program} {G:bF} {φ:List cb} {w:World} {S:Nat→Prop} {hp:List Ob} {d:D} {ups:List (Nat×Ob)} {new:List Ob}
theorem H4 (ids:List Nat)(hp:List Ob):(ids.map (aP hp)).map (bL (idx ids))=bB ids hp:=by
 simp[bB,List.map_map]
def Mh (m:Nat)(ids:List Nat)(os:List Ob):List (Nat×Ob):=(ids.take m).zip os++(ids.drop m).map fun i=>(i,.dead)
def W0 (m:Nat)(ids:List Nat)(os:List Ob)(i:Nat):Ob:=bif Nat.blt ((idx ids i).getD 0) m then os.getD ((idx ids i).getD 0) .dead else .dead
theorem JM {m:Nat}{ids:List Nat}(hnd:ids.Nodup){os:List Ob}(hm:m≤ids.length)(hle:m≤os.length):Mh m ids os=ids.map fun i=>(i,W0 m ids os i):=by
 unfold Mh;have hz:∀k:Nat,((ids.take m).zip os)[k]?=((ids.take m)[k]?).bind fun i=>(os[k]?).map fun o=>(i,o):=by
  intro k;simp only[List.zip];rw[List.getElem?_zipWith];cases(ids.take m)[k]?<;>cases os[k]?<;>rfl
 have hzl:((ids.take m).zip os).length=m:=by simp[List.length_zip];omega
 apply List.ext_getElem?;intro k;rw[lσ];by_cases hk:k<m
 ·have hki:k<ids.length:=by omega
  have hko:k<os.length:=by omega
  rw[lη (by omega),hz,List.getElem?_take,if_pos hk,lδ hki];have hat:ids[k]?=some ids[k]:=lδ hki;have hbl:Nat.blt k m=true:=by rw[blt_eq];simpa using hk
  simp only[Option.bind_some,lδ hko,Option.map_some,W0,Hk hnd hat,Option.getD_some,hbl,cond_true,lρ]
 ·rw[lξ (by omega),hzl,lσ,List.getElem?_drop,show m+(k - m)=k by omega];cases hki:ids[k]? with
  |none=>rfl
  |some i=>
   have hbl:Nat.blt k m=false:=by rw[blt_eq];simpa using hk
   simp only[Option.map_some,W0,Hk hnd hki,Option.getD_some,hbl,cond_false]
theorem Sp {m:Nat}{ids:List Nat}(hnd:ids.Nodup){out:List Ob}(hm:m≤ids.length)(hle:m≤out.length){φ':List cb}(hl:φ'.length=out.length)(hlen:φ.length=hp.length)(hlow:∀k,k<m→φ'[k]?=(ir ids φ)[k]?){σ:Nat→Option Nat}{id:Nat}{l:cb}{o:Ob}
  (hc:id∈ids∨hp.length≤id) (h1:(φ++φ'.drop m)[id]?=some l) (h2:(grow (ao hp (Mh m ids (out.map (bL σ)))) ((out.map (bL σ)).drop m))[id]?=some o):
  o= .dead∨∃k o0,φ'[k]?=some l∧out[k]?=some o0∧o=bL σ o0∧((id<hp.length∧k<m∧ids[k]?=some id)∨(hp.length≤id∧k=m+(id - hp.length))):=by
 have hgrow:∀(a b:List Ob),grow a b=a++b:=by intro a b;cases b<;>simp[grow]
 rw[hgrow]at h2;by_cases hlt:id<hp.length
 ·have hmem:=hc.resolve_right (by omega);obtain⟨k,hk⟩:=List.getElem?_of_mem hmem;have hkl:k<ids.length:=by
   rcases lν k ids.length with h|h
   ·exact h
   ·simp[lε h]at hk
  rw[lη (by rw[bt];exact hlt),JM hnd hm (by simpa using hle),eJ (g:=W0 m ids (out.map (bL σ))),if_pos ⟨hmem,hlt⟩]at h2;rw[lη (by omega)]at h1;simp only[W0,Hk hnd hk,Option.getD_some]at h2;by_cases hkm:k<m
  ·have hko:k<out.length:=by omega
   have hbl:Nat.blt k m=true:=by rw[blt_eq];simpa using hkm
   rw[hbl]at h2;refine .inr ⟨k,out[k],?_,lδ hko,?_,.inl ⟨hlt,hkm,hk⟩⟩
   ·rw[hlow k hkm];simp[ir,hk,h1]
   ·simp[hko]at h2;exact h2.symm
  ·have hbl:Nat.blt k m=false:=by rw[blt_eq];simpa using hkm
   rw[hbl]at h2;simp only[cond_false,lα]at h2;exact .inl h2.symm
 ·have hge:hp.length≤id:=Nat.le_of_not_lt hlt;rw[lξ (by rw[bt];exact hge),bt,List.getElem?_drop,lσ,qβ]at h2;rw[lξ (by omega),List.getElem?_drop,hlen]at h1;obtain⟨o0,ho,rfl⟩:=h2;exact .inr ⟨m+(id - hp.length),o0,h1,ho,rfl,.inr ⟨hge,rfl⟩⟩
theorem xf {call:aG}(hr:HR φ w S hp)(hg:GR G w S){f m:Nat}{ds:List D}{vs:List Value}(hv:Pw (VR φ w S) ds vs){ids:List Nat}(hnd:ids.Nodup)(hm:m≤ids.length)
  (hcall:∀r out,call f (mapD.mapDL (idx ids) ds) (bB ids hp)=some (r,out)→dq P f∧∀φ w S vs,HR φ w S (bB ids hp)→GR G w S→Pw (VR φ w S) (mapD.mapDL (idx ids) ds) vs→Calls P f vs.toArray w (RetOk φ (bB ids hp) w S r out m))
  (h:iF call f ds m ids (ids.map (aP hp)) hp.length=some (d,ups,new)):
  dq P f∧Calls P f vs.toArray w (RetOk φ hp w S d (grow (ao hp ups) new) hp.length):=by
 unfold iF at h;rw[H4]at h;split at h
 ·simp at h
 ·rename_i r out hcl;rw[ble_eq]at h;by_cases hle:m≤out.length
  ·simp only[hle,decide_true,cond_true,lα,lκ]at h;obtain⟨rfl,rfl,rfl⟩:=h;refine⟨(hcall r out hcl).1,((hcall r out hcl).2 (ir ids φ) w S vs (hr.shrink hnd) hg (Gw (oh ids φ) hv)).mono fun e w' he=>?_⟩
   cases e with
   |panicked c=>exact he
   |outgrown=>exact he
   |returned v=>
    obtain⟨φ',S',h1,h2,h3,h4⟩:=he;have hlen:=hr.len;have hl:=h2.len;have hgrow:∀(a b:List Ob),grow a b=a++b:=by intro a b;cases b<;>simp[grow]
    have hlo:∀id,id<hp.length→(φ++φ'.drop m)[id]?=φ[id]?:=fun id hid=>lη (by omega)
    have hups:((ids.take m).zip (out.map (bL (back m hp.length ids out.length)))++(ids.drop m).map fun i=>(i,.dead))=Mh m ids (out.map (bL (back m hp.length ids out.length))):=rfl
    rw[hups]
    -- the callee's names,back to the caller's
    have hren:Ren (back m hp.length ids out.length) φ' (φ++φ'.drop m):=by
     intro k j hj l hl1 hn;unfold back at hj;rw[blt_eq,blt_eq]at hj;by_cases hk:k<m
     ·simp only[hk,decide_true,cond_true]at hj;rw[h4 k hk]at hl1;simp only[ir,lσ,hj,Option.map_some,lα]at hl1;rcases lν j φ.length with hjl|hjl
      ·rw[lη hjl,lδ hjl];rw[lρ,lδ hjl]at hl1;simpa using hl1
      ·rw[lρ,lε hjl]at hl1;exact absurd hl1.symm hn
     ·simp only[hk,decide_false,cond_false]at hj;by_cases hk2:k<out.length
      ·simp only[hk2,decide_true,cond_true,lα]at hj;subst hj;rw[lξ (by omega),List.getElem?_drop];rw[show m+(hp.length+(k - m) - φ.length)=k by omega];exact hl1
      ·simp[hk2]at hj
    have hext:Ext φ (φ++φ'.drop m):=by
     intro id l hl1 _;have:id<φ.length:=by
      rcases lν id φ.length with h|h
      ·exact h
      ·simp[lε h]at hl1
     rw[lη this];exact hl1
    have hoc:∀b,bf (ir ids φ) (bB ids hp) b→pq φ hp (fun id=>id∈ids∨hp.length≤id) b:=by
     intro b hb;obtain⟨i,l,o,hc,g1,g2,g3⟩:=pT hr hb;exact⟨i,l,o,.inl hc,g1,g2,g3⟩
    have hat:=fun {id l o} (hc:id∈ids∨hp.length≤id) (q1:(φ++φ'.drop m)[id]?=some l) (q2:(grow (ao hp (Mh m ids (out.map (bL (back m hp.length ids out.length))))) ((out.map (bL (back m hp.length ids out.length))).drop m))[id]?=some o)=>
     Sp hnd hm hle hl hlen h4 hc q1 q2
    have hdead:∀{l:cb} {b:Nat},bz l .dead=some b→False:=fun {l b} h=>by cases l<;>simp[bz]at h
    obtain⟨k1,k2⟩:=hr.gen (φ':=φ++φ'.drop m) (hp':=grow (ao hp (Mh m ids (out.map (bL (back m hp.length ids out.length))))) ((out.map (bL (back m hp.length ids out.length))).drop m)) (S':=S') (w':=w') (fun id=>id∈ids∨hp.length≤id)
     (by rw[hgrow];simp[bt];omega)
     (fun id hc=>by
      simp only[not_or,Nat.not_le]at hc;refine⟨hlo id hc.2,?_⟩;rw[hgrow,lη (by rw[bt];exact hc.2),JM hnd hm (by simpa using hle),eJ (g:=W0 m ids (out.map (bL (back m hp.length ids out.length)))),if_neg (fun hh=>hc.1 hh.1)])
     hext
     (fun b hb hc=>h3.keep b hb fun ho=>hc (hoc b ho)) h3.size h3.os h3.tape h3.output h3.sub
     (fun b hb=>(h3.news b hb).imp_right (·.imp_left (hoc b))) h2.low
     (fun id l o hc q1 q2=>by
      rcases hat hc q1 q2 with rfl|⟨k,o0,g1,g2,rfl,_⟩
      ·simp only[OR]
      ·exact MS hren (h2.obj k l o0 g1 g2))
     (fun id l o b hc q1 q2 q3=>by
      rcases hat hc q1 q2 with rfl|⟨k,o0,g1,g2,rfl,_⟩
      ·exact(hdead q3).elim
      rw[rx]at q3;have hOw:bf φ' out b:=⟨k,l,o0,g1,g2,q3⟩;exact⟨(h3.newo b hOw).imp_left (hoc b),(h2.own b hOw).2,(h2.own b hOw).1⟩)
     (fun id id' l l' o o' b hc hc' q1 q2 q1' q2' q3 q3'=>by
      rcases hat hc q1 q2 with rfl|⟨k,o0,g1,g2,rfl,gk⟩
      ·exact(hdead q3).elim
      rcases hat hc' q1' q2' with rfl|⟨k',o0',g1',g2',rfl,gk'⟩
      ·exact(hdead q3').elim
      rw[rx]at q3 q3';have:=h2.one k k' l l' o0 o0' b g1 g2 g1' g2' q3 q3';subst this;rcases gk with⟨a1,a3,a2⟩|⟨a1,a2⟩<;>rcases gk' with⟨b1,b3,b2⟩|⟨b1,b2⟩
      ·rw[a2]at b2;simpa using b2
      ·omega
      ·omega
      ·omega)
    exact⟨_,S',wO hren r h1,k1,k2,hlo⟩
  ·simp[hle]at h
theorem Aa (call:aG)(f:Nat)(ds:List D)(ids:List Nat)(obs:List Ob)(len:Nat):eg call f ds ids obs len=iF call f ds ids.length ids obs len:=by
 unfold eg iF;simp only[List.take_length,List.drop_length,List.map_nil,mα]
theorem OA [Mv]{call:aG}(hcall:eV P G call)(hr:HR φ w S hp)(hg:GR G w S){f:Nat}{ds:List D}{vs:List Value}(hv:Pw (VR φ w S) ds vs){ids:List Nat}(hnd:ids.Nodup)
  (h:nk call f ds ids (ids.map (aP hp)) hp.length=some (d,ups,new)):
  dq P f∧Calls P f vs.toArray w (RetOk φ hp w S d (grow (ao hp ups) new) hp.length):=by
 have hsl:(bB ids hp).length=ids.length:=by simp[bB]
 unfold nk at h;cases hmv:Mv.mv f
 ·rw[hmv]at h;simp only[cond_false]at h;rw[Aa]at h;refine xf hr hg hv hnd (Nat.le_refl _) (fun r out hc=>?_) h;have:=hcall f _ _ r out hc;rw[Ho hmv,hsl]at this;exact this
 ·rw[hmv]at h;simp only[cond_true]at h;refine xf hr hg hv hnd (rd _ _ _) (fun r out hc=>?_) h;have:=hcall f _ _ r out hc;rw[hsl]at this;exact this
end
end Go.Ab
end
section
namespace Go.Ab
open Go
variable [Letters]
structure ow (G:bF)(N:Nat)(a:Act)(φ:List cb)(w:World)(S:Nat→Prop)(st:St):Prop where
 tmr:Ml φ w S st.tm a
 gr:GR G w S
 hr:HR φ w S st.hp
 size:N≤a.tmps.size
 defers:a.defers=[]
theorem ow.cx {G:bF}{N:Nat}{a:Act}{φ:List cb}{w:World}{S:Nat→Prop}{st:St}(h:ow G N a φ w S st):Cx G a φ w S st.hp st.tm:=⟨h.tmr,h.gr,h.hr⟩
theorem E2 {φ:List cb}{w:World}{S:Nat→Prop}{d:D}{v:Value}(h:VR φ w S d v):VR φ w S (E0 d) v:=by
 cases d<;>simp only[E0]<;>first
  |exact h
  |(
    simp only[VR]at h;obtain⟨a,cap,us,rfl,h1,_,h3,h4⟩:=h;simp only[VR,PR];exact⟨a,cap,us,rfl,h1,h3,h4⟩)
theorem E1 {φ:List cb}{w:World}{S:Nat→Prop}{ds:List D}{vs:List Value}(h:Pw (VR φ w S) ds vs):Pw (VR φ w S) (ds.map E0) vs:=
 Pw.map_left (h.mono fun _ _ hh=>E2 hh)
theorem Jl {φ:List cb}{w:World}{S:Nat→Prop}{d:D}{v:Value}(h:VR φ w S d v):VR φ w S (norm d) v:=by
 cases d with
 |sl g z es=>exact E2 h
 |agg ds=>
  simp only[VR]at h;obtain⟨vs,rfl,h1,h2⟩:=h;have:=nG (E1 (VRs_iff.1 h1)) h2;rwa [Array.toArray_toList]at this
 |tup ds=>
  simp only[VR]at h;obtain⟨vs,rfl,h1⟩:=h;simp only[norm,VR];exact⟨vs,rfl,VRs_iff.2 (E1 (VRs_iff.1 h1))⟩
 |_=>exact h
theorem CB {φ:List cb}{w:World}{S:Nat→Prop}{ds:List D}{vs:List Value}(h:Pw (VR φ w S) ds vs):Pw (VR φ w S) (ds.map norm) vs:=
 Pw.map_left (h.mono fun _ _ hh=>Jl hh)
section
variable {P:Program} {G:bF} {N:Nat} {o:Oper} {a:Act} {φ:List cb} {w:World} {S:Nat→Prop} {hp:List Ob} {tm:Tm} {st st':St} {base:Nat}
theorem xk {c:Call}{x:Operand}{f:Nat}{fs cs:Array Value}(ho:o.op= .call c)(hc:c.callee= .value x)(hx:a.eval x= .func (.func f) fs cs):
  (execOp a.eval o).run P w=(callFunc f (fs++c.args.map a.eval++cs)).run P w:=by
 simp[execOp,ho,resolve,hc,hx,Deferred.ofValue,invoke]
theorem pL {c:Call}{x:Operand}{f:Nat}{fs cs:Array Value}(ho:o.op= .call c)(hc:c.callee= .value x)(hx:a.eval x= .func (.func f) fs cs)(hf:dq P f):
  (execOp a.eval o).run P w= .ok (.enter f (fs++c.args.map a.eval++cs)) w:=by
 rw[xk ho hc hx];obtain⟨fn,h1,h2,h3⟩:=hf;have h4 : fn.name ≠ "runtime.NumGoroutine" := by simpa using h3
 have h5:fn.body≠none:=by intro e;rw[e]at h2;simp at h2
 simp[callFunc,h1,h5,h4]
theorem Ai {φ:List cb}{w:World}{S:Nat→Prop}{f:Nat}{caps args:List D}{fs vs cs:List Value}(hk:fs.length=Uw f)(hc:Pw (VR φ w S) caps (fs++cs))(ha:Pw (VR φ w S) args vs):Pw (VR φ w S) (jm f caps args) (fs++vs++cs):=by
 unfold jm;have h1:=hc.take (Uw f);have h2:=hc.drop (Uw f);rw[←hk,List.take_left' rfl]at h1;rw[←hk,List.drop_left' rfl]at h2;rw[lω,←hk];exact h1.append (ha.append h2)
theorem NX {op:BinOp}{t:TypeId}{x y:Operand}{q:O}(h:NW P op t x y=some q):cN q=false:=by
 unfold NW at h;simp only[cond_eq_ite]at h;repeat' split at h
 all_goals first
  |(simp at h;done)
  |(simp only[lα]at h;subst h;rfl)
theorem Kx {s t:TypeId}{q:O}(h:qJ P s t=some q):cN q=false:=by
 unfold qJ at h;simp only[cond_eq_ite]at h;repeat' split at h
 all_goals first
  |(simp at h;done)
  |(simp only[lα]at h;subst h;rfl)
theorem Ky {raw:Nat→Bool}{q:O}{as:List A}(hq:NY P G raw o=some (q,as))(hic:cN q=true):∃c,o.op= .call c∧ni P G raw c=some (q,as):=by
 unfold NY at hq;split at hq;all_goals first
  |(rename_i c ho;exact⟨c,ho,hq⟩)
  |skip
 all_goals try simp only[cond_eq_ite]at hq
 all_goals (repeat' split at hq)
 all_goals first
  |(simp at hq;done)
  |(obtain⟨_,_,he⟩:=cB hq;cases he;simp[cN]at hic;done)
  |(obtain⟨_,_,_,_,he⟩:=gW hq;cases he;simp[cN]at hic;done)
  |(obtain⟨rfl,rfl⟩:=bg hq;simp[cN]at hic;done)
  |(obtain⟨_,_,_,_,he⟩:=gW hq;cases he;rename_i hcb;rw[NX hcb]at hic;simp at hic;done)
  |(obtain⟨_,_,he⟩:=cB hq;cases he;rename_i hcb;rw[Kx hcb]at hic;simp at hic;done)
  |skip
theorem NZ {raw:Nat→Bool}{q:O}{as:List A}(hq:Vx P G raw o=some (q,as))(hic:cN q=true):∃c,o.op= .call c∧ni P G raw c=some (q,as):=by
 unfold Vx at hq;split at hq
 ·rename_i r hr;simp only[lα]at hq;subst hq;exact Ky hr hic
 ·simp only[lα,lκ]at hq;obtain⟨rfl,rfl⟩:=hq;cases hic
theorem DY {raw:Nat→Bool}{c:Call}{q:O}{as:List A}(hq:ni P G raw c=some (q,as))(hic:cN q=true):∃x,c.callee= .value x:=by
 unfold ni at hq;simp only[cond_eq_ite]at hq;repeat' split at hq
 all_goals first
  |(simp at hq;done)
  |exact⟨_,‹_›⟩
  |(obtain⟨rfl,rfl⟩:=bg hq;simp[cN]at hic;done)
  |skip
theorem L0 {r:Nat}{es:Array MapEntry}{clock t:Nat}(hb:w.heap[r]?=some (.map es clock)):
  (Extern.MapsClone.clone #[.iface t (.map (some r))]).run P w= .ok (.iface t (.map (some w.heap.size))) (w.alloc (.map es clock)):=by
 have e:Extern.MapsClone.clone #[.iface t (.map (some r))]=(getObj r >>= fun o=>match o with
   | .map entries clock=>(newObj (.map entries clock) >>= fun n=>pure (.iface t (.map (some n))))
   | _ => stuck "maps.clone: a map expected") := rfl
 rw[e];simp only[Sem.run_bind,cw hb,Result.andThen_ok];rfl
theorem Hd {fn : Func} (h : fn.name = "maps.clone") : Extern.find fn = some Extern.MapsClone.clone := by
 unfold Extern.find;simp only[h];rfl
theorem ow.after (h:ow G N a φ w S st){φ':List cb}{w':World}{S':Nat→Prop}{d:Option Nat}{x:D}{v:Value}{hp':List Ob}(hd:Ae d a)(hv:VR φ' w' S' x v)(hr:HR φ' w' S' hp')(he:Ext φ φ')(hf:Fr (bf φ st.hp) S w (bf φ' hp') S' w'):
  ow G N (a.put d v) φ' w' S' ⟨put d x st.tm,hp'⟩ where
 tmr:=Iu hd (je he (hf.stable h.hr) hf.sub h.tmr) hv
 gr:=uZ (hf.stable h.hr) hf.sub h.gr
 hr:=hr
 size:=by have:=h.size;cases d<;>simpa[Act.put]using this
 defers:=by rw[←h.defers];cases d<;>simp[Act.put]
theorem E6 {id:Nat}(h:cf (aP hp id)=true):hp[id]?=some .unborn:=by
 cases hc:aP hp id<;>rw[hc]at h<;>simp[cf]at h;exact ef hc (by simp)
theorem wQ [Mv]{call:aG}{q:O}{kk len:Nat}{vs:List D}{ids:List Nat}{obs:List Ob}(h:cN q=false):sD call base q kk vs ids obs len=k8 call base q kk vs ids obs len:=by
 cases q<;>first|rfl|(simp[cN]at h)
theorem kJ [Mv]{q:O}{vs:List D}{hp:List Ob}(h:cN q=false):cH q vs hp=bj q vs hp:=by
 cases q<;>first|rfl|(simp[cN]at h)
theorem nq:∀(ws acc:List Nat),acc.Nodup→(jk ws acc).Nodup
 |[],acc,h=>h
 |i::r,acc,h=>by
  simp only[jk];cases hc:acc.contains i
  ·refine nq r _ ?_;rw[List.nodup_append];refine⟨h,by simp,?_⟩
   intro a ha b hb e;simp at hb;subst hb;subst e;simp[ha]at hc
  ·exact nq r acc h
theorem ra [Mv](f:Nat)(ws:List Nat)(hp:List Ob):(pR f ws hp).Nodup:=by
 unfold pR;cases Mv.mv f
 ·exact(ec _ ws [] (by simp)).1
 ·exact(ec _ _ _ (nq _ _ (by simp))).1
theorem uf [Mv](vs:List D)(hp:List Ob):(oK vs hp).Nodup:=by
 have hc:(bj .callv vs hp).Nodup:=(ec _ (dids.didsL vs) [] (by simp)).1;unfold oK;split
 ·cases Mv.mv _
  ·exact hc
  ·exact ra _ _ _
 ·exact hc
theorem Oz [Mv]{call:aG}{f len:Nat}{ds:List D}{ids:List Nat}{obs:List Ob}{e:et}(h:(bif Mv.mv f then none else eg call f ds ids obs len)=some e):nk call f ds ids obs len=some e:=by
 unfold nk;cases hm:Mv.mv f
 ·rw[hm]at h;exact h
 ·rw[hm]at h;cases h
theorem UB [Mv]{call:aG}(hcall:eV P G call)(rel:ow G N a φ w S st){raw:Nat→Bool}{x:dU}(hq:Vx P G raw o=some (x.op,x.as))(hdst:x.dst=o.dst)(hN:∀t,o.dst=some t→t<N)(hb:base≤st.hp.length){ft:dC}
  (hev:ox call base x st=some (st',ft)) {K:Act→World→Prop} {Q:Exit→Act→World→Prop}
  (hK:∀a' w' φ' S',ow G N a' φ' w' S' st'→Fr (bf φ st.hp) S w (bf φ' st'.hp) S' w'→(∀id,id<base→φ'[id]?=φ[id]?)→K a' w'):o.wp P a w K Q:=by
 have hd:Ae o.dst a:=fun t ht=>mτ (hN t ht) rel.size
 unfold ox at hev;simp only at hev;cases hmk:(!(cr x.op)||cf (aP st.hp (base+x.k)))with
 |false=>rw[hmk]at hev;simp at hev
 |true=>
  rw[hmk]at hev;simp only[cond_true]at hev;have hmk':cr x.op=true→st.hp[base+x.k]?=some .unborn:=fun h=>by
   rw[h]at hmk;exact E6 (by simpa using hmk)
  split at hev
  ·simp at hev
  ·rename_i d ups new hact;simp only[lα,lκ]at hev;obtain⟨rfl,rfl⟩:=hev;have ij:EffOk P o a φ w S st.hp base d (grow (ao st.hp ups) new)→o.wp P a w K Q:=by
    rintro⟨v,w',φ',S',h1,h2,h3,h4,h5,h6⟩
    refine h1.wp (hK _ _ φ' S' ?_ h5 h6);rw[hdst];exact rel.after hd h2 h3 h4 h5
   have finc:∀f args,(execOp a.eval o).run P w= .ok (.enter f args) w→Calls P f args w (RetOk φ st.hp w S d (grow (ao st.hp ups) new) st.hp.length)→o.wp P a w K Q:=by
    intro f args hrun hc;unfold Oper.wp;rw[hrun,Oper.upon_enter];refine hc.mono fun e w' he=>?_
    cases e with
    |panicked c=>exact he.elim
    |outgrown=>exact he.elim
    |returned v=>
     obtain⟨φ',S',h2,h3,h5,h6⟩:=he;refine hK _ _ φ' S' ?_ h5 (fun id hid=>h6 id (by omega));have he:Ext φ φ':=fun id l hl _=>by
      have:id<φ.length:=by
       rcases lν id φ.length with h|h
       ·exact h
       ·simp[lε h]at hl
      rw[h6 id (by rw[←rel.hr.len];exact this)];exact hl
     rw[hdst];exact rel.after hd h2 h3 he h5
   cases hic:cN x.op with
   |false=>
    rw[wQ hic,kJ hic]at hact;exact ij (VZ rel.cx hq hic hmk' hact)
   |true=>
    obtain⟨c,ho,hcq⟩:=NZ hq hic;obtain⟨xo,hc⟩:=DY hcq hic;have hrelc:=rel.cx;unfold ni at hcq;rw[hc]at hcq;simp only at hcq;have hgo:∀{as':List A} {ds:List D} {f:Nat} {ids:List Nat} {vs:Array Value},ids.Nodup→Pw (VR φ w S) ds vs.toList→nk call f ds ids (ids.map (aP st.hp)) st.hp.length=some (d,ups,new)→(dq P f→(execOp a.eval o).run P w= .ok (.enter f vs) w)→o.wp P a w K Q:=by
     intro as' ds f ids vs hnd hp1 hdc hrun;obtain⟨h1,h2⟩:=OA hcall rel.hr rel.gr hp1 hnd hdc;rw[Array.toArray_toList]at h2;exact finc f vs (hrun h1) h2
    have hnd:∀ws,(close st.hp aX ws []).Nodup:=fun ws=>(ec _ ws [] (by simp)).1
    split at hcq
    ·rename_i f heq;simp only[Callee.value.injEq]at heq;subst heq;split at hcq
     ·rename_i fn as' hfn has;have hargs:=cj (a:=a) rel.tmr rel.gr has;have hargs':(#[]++c.args.map a.eval++ #[]).toList=c.args.toList.map a.eval:=by simp
      split at hcq
      ·obtain⟨hx1,hx2⟩:=bg hcq;rw[←hx1,←hx2]at hact;simp only[sD,cH]at hact;refine hgo (as':=as') (vs:= #[]++c.args.map a.eval++ #[]) (ra _ _ _) ?_ hact (fun hf=>pL ho hc rfl hf);rw[hargs'];cases raw f with
       |true=>exact hargs
       |false=>exact CB hargs
      ·rename_i hbody;cases hcl : (fn.name == "maps.clone" && (Extern.findNext fn).isNone) with
       |false=>
        rw[hcl,cond_false]at hcq;cases hne : (fn.name == "internal/abi.NoEscape" && (Extern.findNext fn).isNone) with
        |false=>rw[hne]at hcq;simp at hcq
        |true=>
         rw[hne,cond_true]at hcq;obtain⟨hx1,hx2⟩:=bg hcq;rw[←hx1]at hic;cases hic
       |true=>
        rw[hcl]at hcq;simp only[cond_true]at hcq;obtain⟨hx1,hx2⟩:=bg hcq;rw[lγ,beq_iff_eq]at hcl;have hmk2:=hmk' (by rw[←hx1];rfl);rw[←hx1,←hx2]at hact;simp only[sD,cH,k8,bj]at hact;have hex:∀{v:Value} {r:Nat} {es:Array MapEntry} {clock t:Nat},c.args.map a.eval= #[.iface t (.map (some r))]→w.heap[r]?=some (.map es clock)→
          (execOp a.eval o).run P w= .ok (.value (.iface t (.map (some w.heap.size)))) (w.alloc (.map es clock)):=by
         intro v r es clock t e1 e2;rw[xk ho hc rfl,run_callFunc_extern hfn (by rw[hcl.1];rfl) (by rw[hbody];rfl) (by simpa using hcl.2) (Hd hcl.1)];rw[show #[]++c.args.map a.eval++ #[]= #[.iface t (.map (some r))] by rw[e1];rfl,L0 e2];rfl
        have hfin:∀{t r:Nat} {ks ws:List Da} {es:Array MapEntry} {clock:Nat},c.args.map a.eval= #[.iface t (.map (some r))]→w.heap[r]?=some (.map es clock)→Pw (PR w S) ks (es.toList.map (·.key))→Pw (PR w S) ws (es.toList.map (·.val))→
          EffOk P o a φ w S st.hp base (.iface t (.map (base+x.k))) (grow (ao st.hp [(base+x.k,.map ks ws)]) []):=by
         intro t r ks ws es clock e1 e2 p1 p2;have hst:dJ S w (w.alloc (.map es clock)):=fun b hb=>iQ w _ (rel.hr.low b hb)
         obtain⟨g1,g2,g3⟩:=rel.hr.born hmk2 (.map es clock) (l:= .map w.heap.size) (ob:= .map ks ws) (fun b hb=>by simp[bz]at hb;exact hb.symm) (by
          simp only[OR];exact⟨es,clock,eb w _,p1.mono fun _ _ hh=>bd hst (fun _ h=>h) _ hh,p2.mono fun _ _ hh=>bd hst (fun _ h=>h) _ hh⟩)
         refine⟨.iface t (.map (some w.heap.size)),_,_,S,.inl (hex (v:=undef) e1 e2),?_,by simpa[grow,ao,aY]using g1,g3,by simpa[grow,ao,aY]using g2,gb⟩
         simp only[VR];exact⟨_,rfl,_,eH rel.hr hmk2,rfl⟩
        refine ij ?_;unfold NB at hact;split at hact
        ·rename_i t id heq;obtain⟨v,e1,e2⟩:=uJ rel.cx has heq;simp only[VR]at e2;obtain⟨u,rfl,r,hr1,rfl⟩:=e2;split at hact
         ·rename_i ks ws hl;simp only[lα,lκ]at hact;obtain⟨rfl,rfl,rfl⟩:=hact;obtain⟨es,clock,g1,g2,g3⟩:=rel.hr.obj id _ _ hr1 (bn hl (by simp));exact hfin e1 g1 g2 g3
         ·rename_i ks ws hl;simp only[lα,lκ]at hact;obtain⟨rfl,rfl,rfl⟩:=hact;obtain⟨_,es,clock,g1,g2,g3⟩:=rel.hr.obj id _ _ hr1 (bn hl (by simp));exact hfin e1 g1 g2 g3
         ·simp at hact
        ·rename_i t ks ws heq;obtain⟨v,e1,e2⟩:=uJ rel.cx has heq;simp only[VR,PR]at e2;obtain⟨u,rfl,r,es,clock,rfl,hS,g1,g2,g3⟩:=e2;simp only[lα,lκ]at hact;obtain⟨rfl,rfl,rfl⟩:=hact;exact hfin e1 g1 (PRs_iff.1 g2) (PRs_iff.1 g3)
        ·simp at hact
     ·simp at hcq
    ·rename_i g hng heq;simp only[Callee.value.injEq]at heq;subst heq;split at hcq
     ·rename_i g' as' hg' has;obtain⟨hx1,hx2⟩:=bg hcq;have hargs:=cj (a:=a) rel.tmr rel.gr has;have hfv:=aU (a:=a) rel.tmr rel.gr hg';rw[←hx1,←hx2]at hact;simp only[sD,cH,List.map_cons]at hact;generalize ev st.tm g'=dg at*
      unfold wY at hact;split at hact
      ·rename_i f caps args heq;simp only[lμ]at heq;obtain⟨rfl,rfl⟩:=heq;simp only[VR,PR]at hfv;obtain⟨fs,cs,hfe,hk,hcs⟩:=hfv;refine hgo (as':=as') (vs:=fs++c.args.map a.eval++cs) (uf _ _) ?_ (Oz hact) (fun hf=>pL ho hc hfe hf);have:(fs++c.args.map a.eval++cs).toList=fs.toList++c.args.toList.map a.eval++cs.toList:=by simp
       rw[this];exact Ai (by simpa using hk) (Pw.map_left ((PRs_iff.1 hcs).mono fun _ _ hh=>by simp only[VR];exact hh)) (CB hargs)
      ·rename_i f caps args heq;simp only[lμ]at heq;obtain⟨rfl,rfl⟩:=heq;simp only[VR]at hfv;obtain⟨fs,cs,hfe,hk,hcs⟩:=hfv;refine hgo (as':=as') (vs:=fs++c.args.map a.eval++cs) (uf _ _) ?_ hact (fun hf=>pL ho hc hfe hf);have:(fs++c.args.map a.eval++cs).toList=fs.toList++c.args.toList.map a.eval++cs.toList:=by simp
       rw[this];exact Ai (by simpa using hk) (VRs_iff.1 hcs) (CB hargs)
      ·simp at hact
     ·simp at hcq
    ·rename_i hb;simp at hb
    ·rename_i hb;simp at hb
end
end Go.Ab
end
section
namespace Go.Ab
open Go
variable [Letters] [Mv]
theorem gU (a b:List Ob):grow a b=a++b:=by cases b<;>simp[grow]
section
variable {P:Program} {G:bF} {N:Nat} {o:Oper} {a:Act} {φ:List cb} {w:World} {S:Nat→Prop} {hp:List Ob} {tm:Tm} {st st':St} {base:Nat}
theorem HR.reserve (hr:HR φ w S hp)(n:Nat):HR (φ++List.replicate n .none) w S (hp++List.replicate n .unborn)∧(∀b,bf (φ++List.replicate n .none) (hp++List.replicate n .unborn) b→bf φ hp b)∧Ext φ (φ++List.replicate n .none):=by
 have hext:Ext φ (φ++List.replicate n .none):=by
  intro id l hl _;have:id<φ.length:=by
   rcases lν id φ.length with h|h
   ·exact h
   ·simp[lε h]at hl
  rw[lη this];exact hl
 have hat:∀{id:Nat} {l:cb} {o:Ob},(φ++List.replicate n .none)[id]?=some l→(hp++List.replicate n .unborn)[id]?=some o→(φ[id]?=some l∧hp[id]?=some o)∨(l= .none∧o= .unborn):=by
  intro id l o h1 h2;rcases lν id hp.length with h|h
  ·rw[lη h]at h2;rw[lη (by rw[hr.len];exact h)]at h1;exact .inl ⟨h1,h2⟩
  ·rw[lξ h]at h2;rw[lξ (by rw[hr.len];exact h)]at h1;rw[List.getElem?_replicate]at h1 h2;split at h1<;>simp at h1;split at h2<;>simp at h2;exact .inr ⟨h1.symm,h2.symm⟩
 have hown:∀b,bf (φ++List.replicate n .none) (hp++List.replicate n .unborn) b→bf φ hp b:=by
  rintro b ⟨id,l,o,h1,h2,h3⟩
  rcases hat h1 h2 with⟨g1,g2⟩|⟨rfl,rfl⟩
  ·exact⟨id,l,o,g1,g2,h3⟩
  ·simp[bz]at h3
 refine⟨⟨by simp[hr.len],?_,fun b hb=>hr.own b (hown b hb),?_,hr.low⟩,hown,hext⟩
 ·intro id l o h1 h2;rcases hat h1 h2 with⟨g1,g2⟩|⟨rfl,rfl⟩
  ·exact qB hext (fun _ _=>rfl) (fun _ h=>h) (fun _ _=>rfl) (hr.obj id l o g1 g2)
  ·simp only[OR]
 ·intro id id' l l' o o' b h1 h2 h1' h2' h3 h3';rcases hat h1 h2 with⟨g1,g2⟩|⟨rfl,rfl⟩
  ·rcases hat h1' h2' with⟨g1',g2'⟩|⟨rfl,rfl⟩
   ·exact hr.one id id' l l' o o' b g1 g2 g1' g2' h3 h3'
   ·simp[bz]at h3'
  ·simp[bz]at h3
theorem ow.reserve (h:ow G N a φ w S st)(n:Nat):ow G N a (φ++List.replicate n .none) w S ⟨st.tm,grow st.hp (List.replicate n .unborn)⟩ where
 tmr:=je (h.hr.reserve n).2.2 (fun _ _=>rfl) (fun _ h=>h) h.tmr
 gr:=h.gr
 hr:=by simp only[gU];exact(h.hr.reserve n).1
 size:=h.size
 defers:=h.defers
structure RA (P:Program)(G:bF)(raw:Nat→Bool)(N:Nat)(all:List Oper)(o:Oper)(x:dU):Prop where
 op:Vx P G raw o=some (x.op,x.as)
 gd:BT all o.guard=some x.gd
 dst:x.dst=o.dst
 lt:∀t,o.dst=some t→t<N
theorem fZ {α:Type}{b:Bool}{e:Option α}{r:α}(h:(bif b then e else none)=some r):b=true∧e=some r:=by
 cases b with
 |false=>simp at h
 |true=>exact⟨rfl,h⟩
theorem BU {raw:Nat→Bool}{all:List Oper}:∀{l:List Oper} {k k':Nat} {xs:List dU},GY P G raw N all l k=some (xs,k')→Pw (RA P G raw N all) l xs
 |[],k,k',xs,h=>by
  simp only[GY,lα,lκ]at h;obtain⟨rfl,rfl⟩:=h;exact Pw.nil
 |o::r,k,k',xs,h=>by
  simp only[GY]at h;split at h
  ·rename_i q as gd hq hgd;obtain⟨hd,h⟩:=fZ h;split at h
   ·rename_i ys n hys;simp only[lα,lκ]at h;obtain⟨rfl,rfl⟩:=h;refine Pw.cons ⟨hq,hgd,rfl,fun t ht=>?_⟩ (BU hys)
    rw[ht]at hd;simpa[blt_eq]using hd
   ·simp at h
  ·simp at h
theorem q9 {ops:Array Oper}{raw:Nat→Bool}{x:dU}(ht:Ml φ w S tm a)(hx:RA P G raw N ops.toList o x){b:Bool}(h:cK x tm=some b):Region.wanted o (yielded ops a.tmps)=b:=by
 have hg:=hx.gd;unfold cK at h;unfold Region.wanted;cases hgu:o.guard with
 |none=>
  rw[hgu]at hg;simp only[BT,lα]at hg;rw[←hg]at h;simp at h;simp[h]
 |some p=>
  obtain⟨j,want⟩:=p;rw[hgu]at hg;simp only[BT]at hg;split at hg
  ·rename_i oj hoj;split at hg
   ·rename_i dd hdd;simp only[lα]at hg;rw[←hg]at h;simp only at h;have hv:=ht dd;have hy:yielded ops a.tmps j=(match a.tmps[dd]? with|some (.bool b)=>some b|_=>none):=by
     unfold yielded;have:ops[j]?=some oj:=by simpa using hoj
     rw[this];simp only[Option.bind_some,hdd];rfl
    split at h
    ·rename_i b' hb';rw[hb']at hv;simp only[VR,PR]at hv;simp only[lα]at h;subst h;have:a.tmps[dd]?=some (.bool b'):=by
      rw[Array.getD_eq_getD_getElem?]at hv;cases hc:a.tmps[dd]? with
      |none=>rw[hc]at hv;simp[undef]at hv
      |some u=>rw[hc]at hv;simp at hv;rw[hv]
     simp only[hy,this];cases b'<;>cases want<;>rfl
    ·rename_i hb';rw[hb']at hv;simp only[VR,ve]at hv;obtain⟨vs,hv,_⟩:=hv;simp only[lα]at h;subst h;have:(match a.tmps[dd]? with|some (.bool b)=>some b|_=>none)=none:=by
      rw[Array.getD_eq_getD_getElem?]at hv;cases hc:a.tmps[dd]? with
      |none=>rfl
      |some u=>rw[hc]at hv;simp at hv;rw[hv]
     simp only[hy,this];rfl
    ·simp at h
   ·simp at hg
  ·simp at hg
theorem En {call:aG}{x:dU}{ft:dC}(h:ox call base x st=some (st',ft)):st.hp.length≤st'.hp.length:=by
 unfold ox at h;simp only at h;cases hmk:(!(cr x.op)||cf (aP st.hp (base+x.k)))with
 |false=>rw[hmk]at h;simp at h
 |true=>
  rw[hmk]at h;simp only[cond_true]at h;split at h
  ·simp at h
  ·simp only[lα,lκ]at h;obtain⟨rfl,rfl⟩:=h;simp[gU,bt]
theorem ow.skip (h:ow G N a φ w S st){d:Option Nat}(hd:Ae d a):ow G N (a.put d undef) φ w S ⟨put d (.tup []) st.tm,st.hp⟩ where
 tmr:=Iu hd h.tmr (by simp only[VR];exact⟨#[],rfl,by simp[ve]⟩)
 gr:=h.gr
 hr:=h.hr
 size:=by have:=h.size;cases d<;>simpa[Act.put]using this
 defers:=by rw[←h.defers];cases d<;>simp[Act.put]
def Later (G:bF)(N base:Nat)(φ:List cb)(w:World)(S:Nat→Prop)(st st':St)(a':Act)(w':World):Prop:=
 ∃φ' S',ow G N a' φ' w' S' st'∧Fr (bf φ st.hp) S w (bf φ' st'.hp) S' w'∧(∀id,id<base→φ'[id]?=φ[id]?)∧base≤st'.hp.length
theorem HI {call:aG}(hcall:eV P G call){raw:Nat→Bool}{ops:Array Oper}{Q:Exit→Act→World→Prop}{stn:St}:∀{l:List Oper} {xs:List dU} {i:Nat} {st:St} {a:Act} {φ:List cb} {w:World} {S:Nat→Prop},(∀j o,l[j]?=some o→ops[i+j]?=some o)→Pw (RA P G raw N ops.toList) l xs→jN call base xs st=some stn→
  ow G N a φ w S st→base≤st.hp.length→(∀a' w',Later G N base φ w S st stn a' w'→Q .normal a' w')→wpOps P ops Q (List.range' i l.length) a w
 |[],xs,i,st,a,φ,w,S,hl,hx,hev,rel,hb,hQ=>by
  obtain rfl:=hx.nil_inv;simp only[jN,lα]at hev;subst hev;simp only[List.length_nil,List.range'_zero,wpOps];exact hQ a w ⟨φ,S,rel,Fr.refl _ _ _,fun _ _=>rfl,hb⟩
 |o::r,xs,i,st,a,φ,w,S,hl,hx,hev,rel,hb,hQ=>by
  obtain⟨x,xr,rfl,hx1,hx2⟩:=hx.cons_inv;have ho:ops[i]?=some o:=by simpa using hl 0 o rfl
  have hl':∀j o',r[j]?=some o'→ops[i+1+j]?=some o':=fun j o' h=>by
   have:=hl (j+1) o' (by simpa using h);rwa [show i+(j+1)=i+1+j by omega]at this
  rw[List.length_cons,List.range'_succ];simp only[wpOps,ho];simp only[jN]at hev;split at hev
  ·simp at hev
  ·rename_i hgd;split at hev
   ·simp at hev
   ·rename_i st1 ft hop;rw[if_pos (by rw[q9 rel.tmr hx1 hgd])];refine .inl (UB hcall rel hx1.op hx1.dst hx1.lt hb hop fun a' w' φ' S' rel' hf hφ=>?_);refine HI hcall hl' hx2 hev rel' (mρ hb (En hop)) fun a2 w2 hlat=>hQ a2 w2 ?_
    obtain⟨φ2,S2,r1,r2,r3,r4⟩:=hlat;exact⟨φ2,S2,r1,hf.trans r2,fun id hid=>(r3 id hid).trans (hφ id hid),r4⟩
  ·rename_i hgd;rw[if_neg (by rw[q9 rel.tmr hx1 hgd];simp)];have hd:Ae o.dst a:=fun t ht=>mτ (hx1.lt t ht) rel.size
   rw[hx1.dst]at hev;exact HI hcall hl' hx2 hev (rel.skip hd) hb hQ
theorem WJ {call:aG}(hcall:eV P G call){raw:Nat→Bool}{id:Nat}{ops:Array Oper}{xs:List dU}{nal k:Nat}{Q:Exit→Act→World→Prop}{stn:St}{m:Nat}(hx:GY P G raw N ops.toList ops.toList 0=some (xs,k))(hev:qW call nal xs none st=some stn)
  (rel:ow G N a φ w S st) (hm:m≤st.hp.length) (hQ:∀a' w',Later G N m φ w S st stn a' w'→Q .normal a' w'):(Code.region id ops false).wp P Q a w:=by
 refine wp_region ?_;rw[List.range_eq_range',←Array.length_toList];have hlen:=rel.hr.len;refine HI hcall (base:=st.hp.length) (fun j o h=>by simpa using h) (BU hx) hev (rel.reserve nal) (by simp[gU]) fun a' w' hlat=>hQ a' w' ?_
 obtain⟨φ2,S2,r1,r2,r3,r4⟩:=hlat;refine⟨φ2,S2,r1,?_,fun id hid=>?_,mρ hm r4⟩
 ·refine Fr.trans (O1:=bf (φ++List.replicate nal .none) (grow st.hp (List.replicate nal .unborn))) (S1:=S) (w1:=w) ?_ r2;rw[gU];exact(Fr.refl _ _ _).less (rel.hr.reserve nal).2.1
 ·rw[r3 id (by omega),lη (by omega)]
end
end Go.Ab
end
section
namespace Go.Ab
open Go
variable [Letters] [Mv]
def K2 (call:aG)(base:Nat)(x:dU)(st:St):Option (St×dC):=
 match cK x st.tm with
 |none=>none
 |some true=>ox call base x st
 |some false=>some (⟨put x.dst (.tup []) st.tm,st.hp⟩,⟨[],[],false,0⟩)
def ua:dC:=⟨[],[],false,0⟩
theorem xi {call:aG}{base:Nat}:∀{xs:List dU} {st st':St} {fs fs':List dC},dw call base xs st fs=some (st',fs')→
  ∃(σ:Nat→St) (F:List dC),σ 0=st∧σ xs.length=st'∧fs'=fs.reverse++F∧F.length=xs.length∧∀(i:Nat) x,xs[i]?=some x→K2 call base x (σ i)=some (σ (i+1),F.getD i ua)
 |[],st,st',fs,fs',h=>by
  simp only[dw,lα,lκ]at h;obtain⟨rfl,rfl⟩:=h;exact⟨fun _=>st,[],rfl,rfl,by simp,rfl,by intro i x h;simp at h⟩
 |x::r,st,st',fs,fs',h=>by
  simp only[dw]at h;have key:∀st1 f,K2 call base x st=some (st1,f)→dw call base r st1 (f::fs)=some (st',fs')→
    ∃(σ:Nat→St) (F:List dC),σ 0=st∧σ (x::r).length=st'∧fs'=fs.reverse++F∧F.length=(x::r).length∧∀(i:Nat) y,(x::r)[i]?=some y→K2 call base y (σ i)=some (σ (i+1),F.getD i ua):=by
   intro st1 f h1 h2;obtain⟨σ,F,g1,g2,g3,g4,g5⟩:=xi h2;refine⟨fun i=>match i with|0=>st|i+1=>σ i,f::F,rfl,g2,by rw[g3];simp,by simp[g4],fun i y hy=>?_⟩
   cases i with
   |zero=>
    simp at hy;subst hy;simpa[g1]using h1
   |succ i=>
    simp at hy;simpa using g5 i y hy
  split at h
  ·simp at h
  ·rename_i hg;split at h
   ·simp at h
   ·rename_i st1 f hop;exact key st1 f (by simp[K2,hg,hop]) h
  ·rename_i hg;exact key _ _ (by simp[K2,hg]) h
theorem IV:∀{a b:List (Int×Int×Int)},K0 a b=true→a=b
 |[],[],_=>rfl
 |[],_::_,h=>by simp[K0]at h
 |_::_,[],h=>by simp[K0]at h
 |(a,l,h)::r,(b,m,i)::s,hh=>by
  simp only[K0,lγ,f9,beq_iff_eq]at hh;obtain⟨rfl,rfl,rfl,h4⟩:=hh;rw[IV h4]
theorem SU {a b:Sy}(h:V6 a b=true):a=b:=by
 cases a<;>cases b<;>simp only[V6,lγ,f9,beq_iff_eq,Bool.false_eq_true]at h
 ·rw[h.1,IV h.2]
 ·rw[h.1,h.2]
mutual
theorem G6:∀(a b:Da),B3 a b=true→a=b
 | .bool a,b,h=>by cases b<;>simp_all [B3]
 | .int i a,b,h=>by cases b<;>simp_all [B3,f9]
 | .str a,b,h=>by cases b<;>simp_all [B3,B6]
 | .agg a,b,h=>by
  cases b<;>simp only[B3,Bool.false_eq_true]at h;rw[dQ _ _ h]
 | .slice z a,b,h=>by
  cases b<;>simp only[B3,Bool.false_eq_true,lγ]at h;rw[lζ h.1,dQ _ _ h.2]
 | .nilptr,b,h=>by cases b<;>simp_all [B3]
 | .ptr a,b,h=>by
  cases b<;>simp only[B3,Bool.false_eq_true]at h;rw[G6 _ _ h]
 | .map a b,c,h=>by
  cases c<;>simp only[B3,Bool.false_eq_true,lγ]at h;rw[dQ _ _ h.1,dQ _ _ h.2]
 | .nilmap,b,h=>by cases b<;>simp_all [B3]
 | .fn f a,b,h=>by
  cases b<;>simp only[B3,Bool.false_eq_true,lγ]at h;rw[lζ h.1,dQ _ _ h.2]
 | .nilfn,b,h=>by cases b<;>simp_all [B3]
 | .iface t x,b,h=>by cases b<;>simp[B3]at h
 | .nilif,b,h=>by cases b<;>simp[B3]at h
 | .sliceE z es,b,h=>by cases b<;>simp[B3]at h
 | .sym i a,b,h=>by
  cases b<;>simp only[B3,Bool.false_eq_true,lγ,lβ]at h;rw[h.1,SU h.2]
theorem dQ:∀(a b:List Da),lR a b=true→a=b
 |[],[],_=>rfl
 |[],_::_,h=>by simp[lR]at h
 |_::_,[],h=>by simp[lR]at h
 |x::a,y::b,h=>by
  simp only[lR,lγ]at h;rw[G6 _ _ h.1,dQ _ _ h.2]
end
mutual
theorem V4:∀(a b:D),G7 a b=true→a=b
 | .p a,b,h=>by
  cases b<;>simp only[G7,Bool.false_eq_true]at h;rw[G6 _ _ h]
 | .agg a,b,h=>by
  cases b<;>simp only[G7,Bool.false_eq_true]at h;rw[qT _ _ h]
 | .tup _,b,h=>by cases b<;>simp[G7]at h
 | .box i o,b,h=>by
  cases b<;>simp only[G7,Bool.false_eq_true,lγ]at h;rw[lζ h.1,lζ h.2]
 | .el _ _ _,b,h=>by cases b<;>simp[G7]at h
 | .ip _ _,b,h=>by cases b<;>simp[G7]at h
 | .arr i x y z,b,h=>by
  cases b<;>simp only[G7,Bool.false_eq_true,lγ]at h;rw[lζ h.1,lζ h.2.1,lζ h.2.2.1,lζ h.2.2.2]
 | .sl g z a,b,h=>by
  cases b with
  |sl g2 y b=>
   cases g<;>cases g2<;>simp only[G7,Bool.false_eq_true,lγ]at h
   ·rw[lζ h.1,dQ _ _ h.2]
   ·rw[lζ h.1,dQ _ _ h.2]
  |_=>cases g<;>simp[G7]at h
 | .map i,b,h=>by
  cases b<;>simp only[G7,Bool.false_eq_true]at h;rw[lζ h]
 | .fn f a,b,h=>by
  cases b<;>simp only[G7,Bool.false_eq_true,lγ]at h;rw[lζ h.1,qT _ _ h.2]
 | .iface _ _,b,h=>by cases b<;>simp[G7]at h
 | .junk,b,h=>by cases b<;>simp[G7]at h
theorem qT:∀(a b:List D),B4 a b=true→a=b
 |[],[],_=>rfl
 |[],_::_,h=>by simp[B4]at h
 |_::_,[],h=>by simp[B4]at h
 |x::a,y::b,h=>by
  simp only[B4,lγ]at h;rw[V4 _ _ h.1,qT _ _ h.2]
end
theorem SS {a b:Ob}(h:Ha a b=true):a=b:=by
 cases a<;>cases b<;>simp only[Ha,Bool.false_eq_true,lγ]at h
 ·rw[qT _ _ h]
 ·rw[dQ _ _ h]
 ·rw[dQ _ _ h]
 ·rw[dQ _ _ h.1,dQ _ _ h.2]
 ·rw[dQ _ _ h.1,dQ _ _ h.2]
 ·rw[dQ _ _ h.1,qT _ _ h.2]
theorem Am {i:Nat}:∀{l:List Nat},ub i l=true→i∈l
 |[],h=>by cases h
 |j::r,h=>by
  simp only[ub]at h;rw[beq_eq]at h;by_cases hj:j=i
  ·subst hj;simp
  ·simp only[hj,decide_false,cond_false]at h;exact mθ _ (Am h)
theorem tJ {ids:List Nat}{hp:List Ob}{id:Nat}:∀{ups:List (Nat×Ob)} {cur:List Ob},(id∈ids→cur[id]?=hp[id]?)→id∉jW ids hp ups→(ao cur ups)[id]?=cur[id]?
 |[],cur,_,_=>rfl
 |(i,o)::r,cur,hc,h=>by
  simp only[ao,aY];simp only[jW]at h;have step:(cur.set i o)[id]?=cur[id]?∧id∉jW ids hp r:=by
   cases hq:ub i ids&&Ha (aP hp i) o
   ·simp only[hq,cond_false,lψ,not_or]at h;exact⟨by rw[mυ (fun e=>h.1 e.symm)],h.2⟩
   ·simp only[hq,cond_true]at h;refine⟨?_,h⟩;by_cases hi:i=id
    ·subst hi;rw[lγ]at hq;have he:=SS hq.2;have hcc:=hc (Am hq.1);rw[List.getElem?_set,if_pos rfl];cases hx:hp[i]? with
     |none=>
      rw[hx]at hcc;rw[hcc];rw[if_neg];intro hlt;rw[lδ hlt]at hcc;cases hcc
     |some x=>
      rw[hx]at hcc;have hlt:i<cur.length:=by
       rcases lν i cur.length with h1|h1
       ·exact h1
       ·rw[lε h1]at hcc;cases hcc
      rw[if_pos hlt,hcc,←he,vB hx]
    ·rw[mυ hi]
  rw[tJ (fun hm=>step.1.trans (hc hm)) step.2,step.1]
theorem mc:∀{ups:List (Nat×Ob)} {hp hp2:List Ob} {id:Nat},hp2[id]?=hp[id]?→(ao hp2 ups)[id]?=(ao hp ups)[id]?
 |[],hp,hp2,id,h=>h
 |(i,o)::r,hp,hp2,id,h=>by
  simp only[ao,aY];refine mc ?_;rw[List.getElem?_set,List.getElem?_set];by_cases hi:i=id
  ·subst hi;simp only[if_true];rcases lν i hp.length with h1|h1<;>rcases lν i hp2.length with h2|h2
   ·rw[if_pos h1,if_pos h2]
   ·rw[lε h2,lδ h1]at h;simp at h
   ·rw[lε h1,lδ h2]at h;simp at h
   ·rw[if_neg (by omega),if_neg (by omega)]
  ·rw[if_neg hi,if_neg hi];exact h
theorem wr_iff {f:dC}{id:Nat}:wr f id=true↔id∈f.ws∨(f.grow=true∧f.lim≤id):=by
 simp[wr,ble_eq]
theorem ID {call:aG}{base:Nat}{q:O}{k:Nat}{vs:List D}{ids:List Nat}{obs:List Ob}{len len':Nat}{d:D}{ups:List (Nat×Ob)}(h:k8 call base q k vs ids obs len=some (d,ups,[])):k8 call base q k vs ids obs len'=some (d,ups,[]):=by
 have key:∀{f:Nat} {args:List D},eg call f args ids obs len=some (d,ups,[])→eg call f args ids obs len'=some (d,ups,[]):=by
  intro f args h;unfold eg at h ⊢
  split at h
  ·simp at h
  ·rename_i r out hc;obtain⟨hle,h⟩:=fZ h;simp only[hc,hle,cond_true];simp only[lα,lκ,List.drop_eq_nil_iff,lθ]at h;have hle2:out.length≤ids.length:=h.2.2;have hb:back ids.length len ids out.length=back ids.length len' ids out.length:=by
    funext k
    unfold back;rw[blt_eq,blt_eq];by_cases hk:k<ids.length
    ·simp[hk]
    ·have:¬k<out.length:=by omega
     simp[hk,this]
   rw[←hb];simp only[lα,lκ,List.drop_eq_nil_iff,lθ];exact h
 cases q<;>simp only[k8]at h ⊢ <;>first
  |exact h
  |exact key h
  |(
    unfold Nz at h ⊢
    split at h
    ·exact key h
    ·exact key h
    ·simp at h)
theorem close_congr {hp hp2:List Ob}:∀{n:Nat} {ws acc:List Nat},(∀id∈close hp n ws acc,hp2[id]?=hp[id]?)→close hp2 n ws acc=close hp n ws acc
 |0,ws,acc,h=>by simp only[close]
 |n+1,[],acc,h=>by simp only[close]
 |n+1,id::ws,acc,h=>by
  simp only[close]at h ⊢
  split
  ·rename_i hc;rw[if_pos hc]at h;exact close_congr h
  ·rename_i hc;rw[if_neg hc]at h;have hid:hp2[id]?=hp[id]?:=by
    refine h id ?_;have hni:acc.Nodup→True:=fun _=>trivial
    obtain⟨r,hr⟩:=close_prefix (hp:=hp) n (hO (hp.getD id .dead)++ws) (acc++[id]);rw[←hr];simp
   have hob:hp2.getD id .dead=hp.getD id .dead:=by simp[lρ,hid]
   rw[hob];exact close_congr h
where
 close_prefix {hp:List Ob}:∀(n:Nat) (ws acc:List Nat),acc <+: close hp n ws acc
  |0,ws,acc=>by simp only[close];exact List.prefix_refl _
  |n+1,[],acc=>by simp only[close];exact List.prefix_refl _
  |n+1,id::ws,acc=>by
   simp only[close];split
   ·exact close_prefix n ws acc
   ·exact(List.prefix_append _ _).trans (close_prefix n _ _)
theorem lT {q:O}{vs:List D}{hp hp2:List Ob}(h:∀id∈bj q vs hp,hp2[id]?=hp[id]?):bj q vs hp2=bj q vs hp:=by
 cases q<;>simp only[bj]at h ⊢ <;>exact close_congr h
theorem Ep {x:dU}{tm tm2:Tm}(h:∀t∈gj x,get tm2 t=get tm t):x.as.map (ev tm2)=x.as.map (ev tm):=by
 apply List.map_congr_left;intro y hy;cases y with
 |t n=>
  simp only[ev];refine h n ?_;simp only[gj,mδ,List.mem_filterMap];exact .inl ⟨.t n,hy,rfl⟩
 |_=>rfl
theorem EA {x:dU}{tm tm2:Tm}(h:∀t∈gj x,get tm2 t=get tm t):cK x tm2=cK x tm:=by
 unfold cK;cases hg:x.gd with
 |none=>rfl
 |some p=>
  obtain⟨g,want⟩:=p;simp only;rw[h g (by simp[gj,hg])]
theorem Qd {ids:List Nat}{hp hp2:List Ob}(h:∀id∈ids,hp2[id]?=hp[id]?):ids.map (aP hp2)=ids.map (aP hp):=by
 apply List.map_congr_left;intro id hid;simp[aP,lρ,h id hid]
structure Zx (x:dU)(st st1:St)(f:dC)(st2 st2':St):Prop where
 tm1:∀t,x.dst=some t→get st2'.tm t=get st1.tm t
 tm0:∀t,x.dst≠some t→get st2'.tm t=get st2.tm t
 hp1:∀id,wr f id=true→st2'.hp[id]?=st1.hp[id]?
 hp0:∀id,wr f id=false→st2'.hp[id]?=st2.hp[id]?
 len1:f.grow=true→st2'.hp.length=st1.hp.length
 len0:f.grow=false→st2'.hp.length=st2.hp.length
theorem Fs {d:Option Nat}{v:D}{tm tm2:Tm}{t:Nat}(h:d=some t):get (put d v tm2) t=get (put d v tm) t:=by
 rw[q0,q0,if_pos h,if_pos h]
theorem nu {call:aG}{m:Nat}{ids:List Nat}{obs:List Ob}{len len':Nat}{d:D}{ups:List (Nat×Ob)}{f:Nat}{args:List D}(h:iF call f args m ids obs len=some (d,ups,[])):iF call f args m ids obs len'=some (d,ups,[]):=by
 unfold iF at h ⊢
 split at h
 ·simp at h
 ·rename_i r out hc;obtain⟨hle,h⟩:=fZ h;simp only[hc,hle,cond_true];simp only[lα,lκ,List.drop_eq_nil_iff,lθ]at h;have hle2:out.length≤m:=h.2.2;have hb:back m len ids out.length=back m len' ids out.length:=by
   funext k
   unfold back;rw[blt_eq,blt_eq];by_cases hk:k<m
   ·simp[hk]
   ·have:¬k<out.length:=by omega
    simp[hk,this]
  rw[←hb];simp only[lα,lκ,List.drop_eq_nil_iff,lθ];exact h
theorem pK {call:aG}{ids:List Nat}{obs:List Ob}{len len':Nat}{d:D}{ups:List (Nat×Ob)}{f:Nat}{args:List D}(h:eg call f args ids obs len=some (d,ups,[])):eg call f args ids obs len'=some (d,ups,[]):=by
 rw[Aa]at h ⊢
 exact nu h
theorem NE {call:aG}{base:Nat}{q:O}{k:Nat}{vs:List D}{ids:List Nat}{obs:List Ob}{len len':Nat}{d:D}{ups:List (Nat×Ob)}(h:sD call base q k vs ids obs len=some (d,ups,[])):sD call base q k vs ids obs len'=some (d,ups,[]):=by
 cases hq:cN q
 ·rw[wQ hq]at h ⊢
  exact ID h
 ·cases q<;>first
   |(simp[cN]at hq;done)
   |(
     simp only[sD,nk]at h ⊢
     revert h
     cases Mv.mv _<;>intro h
     ·exact pK h
     ·exact nu h)
   |(
     simp only[sD,wY]at h ⊢
     split at h
     ·revert h
      cases Mv.mv _<;>intro h
      ·exact pK h
      ·cases h
     ·unfold nk at h ⊢
      revert h
      cases Mv.mv _<;>intro h
      ·exact pK h
      ·exact nu h
     ·cases h)
   |exact ID (call:=call) (q:= .clone) (len:=len) (len':=len') h
theorem xT {f:Nat}{raw:Bool}{vs:List D}{hp hp2:List Ob}(h:∀id∈cH (.call f raw) vs hp,hp2[id]?=hp[id]?):cH (.call f raw) vs hp2=cH (.call f raw) vs hp:=by
 simp only[cH,pR]at h ⊢
 revert h
 cases Mv.mv f<;>intro h
 ·exact close_congr h
 ·simp only[cond_true]at h ⊢
  have hd:((jk (dids.didsL vs) []).flatMap fun i=>hO (aP hp2 i))=(jk (dids.didsL vs) []).flatMap fun i=>hO (aP hp i):=by
   have key:∀i∈jk (dids.didsL vs) [],aP hp2 i=aP hp i:=fun i hi=>by
    have:=h i ((close_congr.close_prefix _ _ _).subset hi);simp[aP,lρ,this]
   clear h;generalize jk (dids.didsL vs) []=l at key ⊢
   induction l with
   |nil=>rfl
   |cons a r ih=>
    simp only[List.flatMap_cons];rw[key a (mν ..),ih fun i hi=>key i (mθ _ hi)]
  rw[hd];exact close_congr h
theorem EY {vs:List D}{hp hp2:List Ob}(h:∀id∈oK vs hp,hp2[id]?=hp[id]?):oK vs hp2=oK vs hp:=by
 unfold oK at h ⊢
 split at h
 ·rename_i f caps args;revert h;cases hm:Mv.mv (Dd f)<;>intro h
  ·exact lT (q:= .callv) h
  ·exact xT (f:=Dd f) (raw:=false) h
 ·exact lT (q:= .callv) h
theorem EX {q:O}{vs:List D}{hp hp2:List Ob}(h:∀id∈cH q vs hp,hp2[id]?=hp[id]?):cH q vs hp2=cH q vs hp:=by
 cases hq:cN q
 ·rw[kJ hq]at h;rw[kJ hq,kJ hq];exact lT h
 ·cases q<;>first
   |(simp[cN]at hq;done)
   |exact xT h
   |exact EY h
   |exact lT (q:= .clone) h
theorem od {call:aG}{base:Nat}{x:dU}{st st1:St}{f:dC}(h:K2 call base x st=some (st1,f)){st2:St}(ha:∀t∈gj x,get st2.tm t=get st.tm t)(hb:∀id,id∈f.rs∨id∈f.ws→st2.hp[id]?=st.hp[id]?)(hc:f.grow=true→st2.hp.length=st.hp.length):
  ∃st2' f',K2 call base x st2=some (st2',f')∧Zx x st st1 f st2 st2':=by
 unfold K2 at h ⊢
 rw[EA ha];split at h
 ·simp at h
 ·rename_i hg;unfold ox at h;simp only at h;obtain⟨hmk,h⟩:=fZ h;split at h
  ·simp at h
  ·rename_i d ups new hact;simp only[lα,lκ]at h;obtain⟨rfl,rfl⟩:=h;simp only at hb hc;have hids:∀id∈cH x.op (x.as.map (ev st.tm)) st.hp,st2.hp[id]?=st.hp[id]?:=fun id hid=>hb id (.inl (by cases cr x.op<;>simp[hid]))
   have hn:cH x.op (x.as.map (ev st2.tm)) st2.hp=cH x.op (x.as.map (ev st.tm)) st.hp:=by rw[Ep ha];exact EX hids
   have hmk2:(!(cr x.op)||cf (aP st2.hp (base+x.k)))=true:=by
    cases hm:cr x.op with
    |false=>rfl
    |true=>
     rw[hm]at hmk;have:aP st2.hp (base+x.k)=aP st.hp (base+x.k):=by
      simp only[aP,lρ];rw[hb (base+x.k) (.inl (by rw[hm];simp))]
     rw[this];exact hmk
   have hact2:sD call base x.op x.k (x.as.map (ev st2.tm)) (cH x.op (x.as.map (ev st2.tm)) st2.hp) ((cH x.op (x.as.map (ev st2.tm)) st2.hp).map (aP st2.hp)) st2.hp.length=some (d,ups,new):=by
    rw[hn,Ep ha,Qd hids];cases new with
    |nil=>exact NE hact
    |cons o r=>rw[hc rfl];exact hact
   refine⟨⟨put x.dst d st2.tm,grow (ao st2.hp ups) new⟩,_,by unfold ox;simp only[hmk2,cond_true,hact2];rfl,?_⟩
   have hle:∀hp:List Ob,(grow (ao hp ups) new).length=hp.length+new.length:=fun hp=>by simp[gU,bt]
   have hwr:∀id,wr ⟨bif cr x.op then(base+x.k)::cH x.op (x.as.map (ev st.tm)) st.hp else cH x.op (x.as.map (ev st.tm)) st.hp,jW (cH x.op (x.as.map (ev st.tm)) st.hp) st.hp ups,!new.isEmpty,st.hp.length⟩ id=true→(grow (ao st2.hp ups) new)[id]?=(grow (ao st.hp ups) new)[id]?:=by
    intro id hw;rw[wr_iff]at hw;simp only at hw;rw[gU,gU];cases new with
    |nil=>
     simp only[mα];have hw':=hw.resolve_right (by simp);exact mc (hb id (.inr hw'))
    |cons o r=>
     have hl:=hc rfl;rcases lν id st.hp.length with h1|h1
     ·have hw':=hw.resolve_right (by simp;omega);rw[lη (by rw[bt];omega),lη (by rw[bt];exact h1)];exact mc (hb id (.inr hw'))
     ·rw[lξ (by rw[bt];omega),lξ (by rw[bt];exact h1),bt,bt,hl]
   refine⟨fun t ht=>Fs ht,fun t ht=>by simp only;rw[q0,if_neg ht],hwr,fun id hw=>?_,fun hg'=>?_,fun hg'=>?_⟩
   ·have hw':¬(id∈jW (cH x.op (x.as.map (ev st.tm)) st.hp) st.hp ups∨((!new.isEmpty)=true∧st.hp.length≤id)):=fun hh=>by
     have:=wr_iff (f:=⟨bif cr x.op then(base+x.k)::cH x.op (x.as.map (ev st.tm)) st.hp else cH x.op (x.as.map (ev st.tm)) st.hp,jW (cH x.op (x.as.map (ev st.tm)) st.hp) st.hp ups,!new.isEmpty,st.hp.length⟩).2 hh
     rw[hw]at this;simp at this
    simp only[not_or]at hw';simp only[gU];cases new with
    |nil=>rw[mα];exact tJ (hids id) hw'.1
    |cons o r=>
     have hl:=hc rfl;have:id<st.hp.length:=by
      have:=hw'.2;simp at this;omega
     rw[lη (by rw[bt];omega)];exact tJ (hids id) hw'.1
   ·simp only[hle];rw[hc hg']
   ·simp only[hle];have:new=[]:=by simpa using hg'
    simp[this]
 ·rename_i hg;simp only[lα,lκ]at h;obtain⟨rfl,rfl⟩:=h;exact⟨_,_,rfl,fun t ht=>Fs ht,fun t ht=>by simp only;rw[q0,if_neg ht],by intro id hw;simp[wr]at hw,fun _ _=>rfl,by intro hh;simp at hh,fun _=>rfl⟩
theorem Py {call:aG}{base:Nat}{x:dU}{st st1:St}{f:dC}(h:K2 call base x st=some (st1,f))(hh:dn x.op=false):f.rs=[]∧f.ws=[]∧f.grow=false:=by
 unfold K2 at h;split at h
 ·simp at h
 ·unfold ox at h;simp only at h;obtain⟨hmk,h⟩:=fZ h;split at h
  ·simp at h
  ·rename_i d ups new hact;simp only[lα,lκ]at h;obtain⟨rfl,rfl⟩:=h;have hnc:cN x.op=false:=by
    cases hq:x.op<;>rw[hq]at hh<;>simp[dn]at hh<;>rfl
   rw[wQ hnc]at hact;have hval:∀{e:D},val e=some (d,ups,new)→ups=[]∧new=[]:=fun he=>(jV he).2
   have hvalP:∀{e:Option Da},jB e=some (d,ups,new)→ups=[]∧new=[]:=fun he=>by obtain⟨_,_,_,h1,h2⟩:=FS he;exact⟨h1,h2⟩
   have key:ups=[]∧new=[]:=by
    clear hnc;generalize cH x.op (x.as.map (ev st.tm)) st.hp=ids0 at hact;generalize x.as.map (ev st.tm)=vs at hact;generalize x.op=q at hact hh;cases q<;>simp only[dn,reduceCtorEq,Bool.true_eq_false]at hh;all_goals simp only[k8]at hact
    all_goals first
     |(simp at hact;done)
     |(unfold WZ at hact)
     |(unfold zR at hact)
     |(unfold pD at hact)
     |(unfold pE at hact;simp only[cond_eq_ite]at hact)
     |(unfold zh at hact)
     |(unfold Iw at hact)
     |(unfold Iy at hact)
     |(unfold wP at hact)
     |(unfold Xf at hact)
     |(unfold Iz at hact)
     |(unfold IB at hact)
     |(unfold DP at hact)
     |(unfold DO at hact)
     |(unfold GL at hact;simp only[cond_eq_ite]at hact)
     |(unfold lL at hact)
     |(unfold IC at hact)
     |(unfold Ko at hact;simp only[cond_eq_ite]at hact)
     |(unfold hE at hact;rw[Bool.or_eq_false_iff]at hh;obtain⟨rfl,hh⟩:=hh;simp only[hh,Bool.false_and,cond_eq_ite,Bool.false_eq_true,if_false]at hact)
     |(unfold Vg at hact)
     |(unfold DK at hact)
     |(unfold IA at hact;simp only[cond_eq_ite]at hact)
     |(unfold DL at hact;simp only[cond_eq_ite]at hact)
     |(unfold RQ at hact)
     |(unfold GK at hact)
     |(unfold NA at hact)
     |(unfold DN at hact)
     |(unfold DM at hact)
     |(unfold ng at hact;simp only[cond_eq_ite]at hact)
     |(unfold NC at hact)
     |(unfold Vh at hact)
     |(unfold BN at hact;simp only[cond_eq_ite]at hact)
     |skip
    all_goals (repeat' split at hact)
    all_goals first
     |(simp at hact;done)
     |exact hval hact
     |exact hvalP hact
   obtain⟨rfl,rfl⟩:=key;have hm:cr x.op=false:=by
    cases hq:x.op<;>rw[hq]at hh<;>simp[dn]at hh<;>rfl
   have hn:cH x.op (x.as.map (ev st.tm)) st.hp=[]:=by
    rw[kJ hnc];clear hnc;cases hq:x.op<;>rw[hq]at hh<;>simp only[dn,reduceCtorEq,Bool.true_eq_false]at hh<;>first
     |rfl
     |(simp only[bj,hh,cond_false])
   rw[hm,hn];exact⟨rfl,rfl,rfl⟩
 ·simp only[lα,lκ]at h;obtain⟨_,rfl⟩:=h;exact⟨rfl,rfl,rfl⟩
end Go.Ab
end
section
namespace Go.Ab
open Go
variable [Letters] [Mv]
def kQ (o:Oper):List Nat:=(o.after.toList.filter iz).map (·.on)
theorem qS:∀{l:List Oper} {n:Nat},gD l n=true→∀(j:Nat) o,l[j]?=some o→∀d∈kQ o,d<n+j
 |[],n,h,j,o,ho,d,hd=>by simp at ho
 |x::r,n,h,j,o,ho,d,hd=>by
  simp only[gD,lγ,mζ]at h;cases j with
  |zero=>
   simp at ho;subst ho;simp only[kQ,List.mem_map,List.mem_filter]at hd;obtain⟨e,⟨he,hb⟩,rfl⟩:=hd;have:=h.1 e he;rw[hb]at this;simpa[blt_eq]using this
  |succ j=>
   have:=qS h.2 j o (by simpa using ho) d hd;omega
theorem IE:∀(l:List Oper) (acc:List (List Nat)),∃r,zi l acc=acc++r∧r.length=l.length∧
  ∀(j:Nat) o,l[j]?=some o→∀x∈(zi l acc).getD (acc.length+j) [],x∈kQ o∨∃d∈kQ o,d<acc.length+j∧x∈(zi l acc).getD d []
 |[],acc=>⟨[],by simp[zi],rfl,by intro j o h;simp at h⟩
 |o::r,acc=>by
  simp only[zi];obtain⟨q,h1,h2,h3⟩:=IE r (acc++[(((o.after.toList.filter iz).map (·.on))++((o.after.toList.filter iz).map (·.on)).flatMap fun d=>acc.getD d []).eraseDups]);refine⟨_::q,by rw[h1];simp;rfl,by simp[h2],fun j o' ho x hx=>?_⟩
  cases j with
  |zero=>
   simp at ho;subst ho;rw[h1]at hx;rw[h1];simp only[Nat.add_zero,lρ,lω,lξ (Nat.le_refl _),Nat.sub_self,List.singleton_append,List.getElem?_cons_zero,Option.getD_some,List.mem_eraseDups,mδ,List.mem_flatMap]at hx;rcases hx with hx|⟨d,hd,hx⟩
   ·exact .inl hx
   ·have hlt:d<acc.length:=by
     rcases lν d acc.length with h|h
     ·exact h
     ·simp[lε h]at hx
    refine .inr ⟨d,hd,by simpa using hlt,?_⟩
    rw[lρ,lω,lη hlt];exact hx
  |succ j=>
   have:=h3 j o' (by simpa using ho) x (by
    have e:(acc++[(((o.after.toList.filter iz).map (·.on))++((o.after.toList.filter iz).map (·.on)).flatMap fun d=>acc.getD d []).eraseDups]).length+j=acc.length+(j+1):=by simp;omega
    rw[e];exact hx)
   rcases this with h|⟨d,hd,hlt,hx⟩
   ·exact .inl h
   ·exact .inr ⟨d,hd,by simp at hlt;omega,hx⟩
theorem yh {xs:List dU}{an:List Nat}{x:dU}{n:Nat}:∀{l:List Nat} {ps:List (Nat×Nat)},vE xs an x n l=some ps→∀i∈l,i∈an∨∃y,xs[i]?=some y∧rQ y x=true∧((dn y.op&&dn x.op)=true→(i,n)∈ps)
 |[],ps,h,i,hi=>by simp at hi
 |k::r,ps,h,i,hi=>by
  simp only[vE]at h;split at h
  ·simp at h
  ·rename_i qs hqs;have ih:=yh hqs;cases hc:an.contains k with
   |true=>
    rw[hc]at h;simp only[cond_true,lα]at h;subst h;rcases lψ.1 hi with rfl|hi
    ·exact .inl (by simpa using hc)
    ·exact ih i hi
   |false=>
    rw[hc]at h;simp only[cond_false]at h;split at h
    ·simp at h
    ·rename_i y hy;obtain⟨htm,h⟩:=fZ h;cases hh:(dn y.op&&dn x.op)with
     |true=>
      rw[hh]at h;simp only[cond_true,lα]at h;subst h;rcases lψ.1 hi with rfl|hi
      ·exact .inr ⟨y,hy,htm,fun _=>by simp⟩
      ·rcases ih i hi with h|⟨y',h1,h2,h3⟩
       ·exact .inl h
       ·exact .inr ⟨y',h1,h2,fun hq=>mθ _ (h3 hq)⟩
     |false=>
      rw[hh]at h;simp only[cond_false,lα]at h;subst h;rcases lψ.1 hi with rfl|hi
      ·exact .inr ⟨y,hy,htm,fun hq=>by rw[hh]at hq;simp at hq⟩
      ·exact ih i hi
theorem ug {xs:List dU}{an:List (List Nat)}:∀{l:List Nat} {ps:List (Nat×Nat)},kM xs an l=some ps→∀n∈l,∃x a,xs[n]?=some x∧an[n]?=some a∧∀i,i<n→i∈a∨∃y,xs[i]?=some y∧rQ y x=true∧((dn y.op&&dn x.op)=true→(i,n)∈ps)
 |[],ps,h,n,hn=>by simp at hn
 |k::r,ps,h,n,hn=>by
  simp only[kM]at h;split at h
  ·rename_i x a hx ha;split at h
   ·rename_i p1 p2 h1 h2;simp only[lα]at h;subst h;rcases lψ.1 hn with rfl|hn
    ·refine⟨x,a,hx,ha,fun i hi=>?_⟩
     rcases yh h1 i (by simpa using hi)with h|⟨y,g1,g2,g3⟩
     ·exact .inl h
     ·exact .inr ⟨y,g1,g2,fun hq=>List.mem_append_left _ (g3 hq)⟩
    ·obtain⟨x',a',g1,g2,g3⟩:=ug h2 n hn;refine⟨x',a',g1,g2,fun i hi=>?_⟩
     rcases g3 i hi with h|⟨y,q1,q2,q3⟩
     ·exact .inl h
     ·exact .inr ⟨y,q1,q2,fun hq=>List.mem_append_right _ (q3 hq)⟩
   ·simp at h
  ·simp at h
theorem tP {fs:List dC}:∀{ps:List (Nat×Nat)},eB fs ps=true→∀i j,(i,j)∈ps→jK (fs.getD i ua) (fs.getD j ua)=true
 |[],h,i,j,hm=>by simp at hm
 |(p,q)::r,h,i,j,hm=>by
  simp only[eB]at h;split at h
  ·rename_i a b ha hb;rw[lγ]at h;rcases lψ.1 hm with he|hm
   ·simp only[lκ]at he;obtain⟨rfl,rfl⟩:=he;simp only[lρ,ha,hb,Option.getD_some];exact h.1
   ·exact tP h.2 i j hm
  ·simp at h
structure Mn (x y:dU)(f g:dC):Prop where
 t1:∀d,x.dst=some d→d∉gj y
 t2:∀d,x.dst=some d→y.dst≠some d
 t3:∀d,y.dst=some d→d∉gj x
 r1:∀id,id∈g.rs∨id∈g.ws→wr f id=false
 r2:∀id,id∈f.rs∨id∈f.ws→wr g id=false
 gg:¬(f.grow=true∧g.grow=true)
theorem If {x y:dU}(h:rQ x y=true):(∀d,x.dst=some d→d∉gj y)∧(∀d,x.dst=some d→y.dst≠some d)∧(∀d,y.dst=some d→d∉gj x):=by
 unfold rQ at h;rw[lγ]at h;refine⟨fun d hd=>?_,fun d hd=>?_,fun d hd=>?_⟩
 ·have:=h.1;rw[hd]at this;simp only[lγ]at this;simpa using this.1
 ·have:=h.1;rw[hd]at this;simp only[lγ]at this;intro he;rw[he]at this;simp at this
 ·have:=h.2;rw[hd]at this;simpa using this
theorem NI {f g:dC}(h:jK f g=true):(∀id,id∈g.rs∨id∈g.ws→wr f id=false)∧(∀id,id∈f.rs∨id∈f.ws→wr g id=false)∧¬(f.grow=true∧g.grow=true):=by
 unfold jK at h;simp only[lγ,mζ]at h;obtain⟨⟨⟨⟨h1,h2⟩,h3⟩,h4⟩,h5⟩:=h;refine⟨fun id hid=>?_,fun id hid=>?_,fun⟨a,b⟩=>by rw[a,b]at h5;simp at h5⟩
 ·rcases hid with hid|hid
  ·simpa using h1 id hid
  ·simpa using h2 id hid
 ·rcases hid with hid|hid
  ·simpa using h3 id hid
  ·simpa using h4 id hid
structure pz (call:aG)(base:Nat)(ops:List Oper)(xs:List dU)(an:List (List Nat))(σ:Nat→St)(F:Nat→dC):Prop where
 len:ops.length=xs.length
 step:∀(i:Nat) x,xs[i]?=some x→K2 call base x (σ i)=some (σ (i+1),F i)
 back:∀(j:Nat) o,ops[j]?=some o→∀d∈kQ o,d<j
 anc:∀(j:Nat) o,ops[j]?=some o→∀x∈an.getD j [],x∈kQ o∨∃d∈kQ o,d<j∧x∈an.getD d []
 pair:∀(i j:Nat) x y,i<j→xs[i]?=some x→xs[j]?=some y→i∈an.getD j []∨Mn x y (F i) (F j)
theorem TM {call:aG}{base:Nat}{ops:List Oper}{xs:List dU}{ps:List (Nat×Nat)}{st st':St}{fs:List dC}(hl:ops.length=xs.length)(hb:gD ops 0=true)(hp:kM xs (zi ops []) (List.range xs.length)=some ps)(hev:dw call base xs st []=some (st',fs))(ha:eB fs ps=true):
  ∃σ F,σ 0=st∧σ xs.length=st'∧pz call base ops xs (zi ops []) σ F:=by
 obtain⟨σ,fl,h1,h2,h3,h4,h5⟩:=xi hev;simp at h3;subst h3;refine⟨σ,fun i=>fs.getD i ua,h1,h2,hl,h5,fun j o ho d hd=>by have:=qS hb j o ho d hd;omega,?_,?_⟩
 ·obtain⟨r,g1,g2,g3⟩:=IE ops [];intro j o ho x hx;have:=g3 j o ho x (by simpa using hx);simpa using this
 ·intro i j x y hij hx hy;have hj:j<xs.length:=by
   rcases lν j xs.length with h|h
   ·exact h
   ·simp[lε h]at hy
  obtain⟨y',a,q1,q2,q3⟩:=ug hp j (by simpa using hj);rw[hy]at q1;simp at q1;subst q1;rcases q3 i hij with h|⟨x',p1,p2,p3⟩
  ·left;rw[lρ,q2];exact h
  ·rw[hx]at p1;simp at p1;subst p1;obtain⟨t1,t2,t3⟩:=If p2;right;cases hh:(dn x.op&&dn y.op)with
   |true=>
    obtain⟨r1,r2,gg⟩:=NI (tP ha i j (p3 hh));exact⟨t1,t2,t3,r1,r2,gg⟩
   |false=>
    have idle:∀{k:Nat} {z:dU},xs[k]?=some z→dn z.op=false→(fs.getD k ua).rs=[]∧(fs.getD k ua).ws=[]∧(fs.getD k ua).grow=false:=fun hz hh=>Py (h5 _ _ hz) hh
    rw[Bool.and_eq_false_iff]at hh;rcases hh with hh|hh
    ·obtain⟨a1,a2,a3⟩:=idle hx hh;exact⟨t1,t2,t3,fun id _=>by simp only[wr,a2,a3];simp,fun id hid=>by simp only[a1,a2]at hid;simp at hid,fun hg=>by simp only[a3]at hg;simp at hg⟩
    ·obtain⟨a1,a2,a3⟩:=idle hy hh;exact⟨t1,t2,t3,fun id hid=>by simp only[a1,a2]at hid;simp at hid,fun id _=>by simp only[wr,a2,a3];simp,fun hg=>by simp only[a3]at hg;simp at hg⟩
section
variable {call:aG} {base:Nat} {ops:List Oper} {xs:List dU} {an:List (List Nat)} {σ:Nat→St} {F:Nat→dC}
def Yz (xs:List dU)(j t:Nat):Prop:=∃x,xs[j]?=some x∧x.dst=some t
def Yx (xs:List dU)(F:Nat→dC)(j id:Nat):Prop:=j<xs.length∧wr (F j) id=true
def Yy (xs:List dU)(F:Nat→dC)(j:Nat):Prop:=j<xs.length∧(F j).grow=true
theorem pz.stillT (p:pz call base ops xs an σ F){t:Nat}{m:Nat}:∀(k:Nat),m+k≤xs.length→(∀j,m≤j→j<m+k→¬Yz xs j t)→get (σ (m+k)).tm t=get (σ m).tm t
 |0,_,_=>rfl
 |k+1,hle,h=>by
  rw[←p.stillT k (by omega) fun j h1 h2=>h j h1 (by omega)];have hx:xs[m+k]?=some xs[m+k]:=lδ (by omega);obtain⟨st2',f',h1,h2⟩:=od (p.step _ _ hx) (st2:=σ (m+k)) (fun _ _=>rfl) (fun _ _=>rfl) (fun _=>rfl);rw[p.step _ _ hx]at h1;simp only[lα,lκ]at h1;obtain⟨rfl,rfl⟩:=h1;exact h2.tm0 t fun e=>h (m+k) (by omega) (by omega) ⟨_,hx,e⟩
theorem pz.stillH (p:pz call base ops xs an σ F){id:Nat}{m:Nat}:∀(k:Nat),m+k≤xs.length→(∀j,m≤j→j<m+k→¬Yx xs F j id)→(σ (m+k)).hp[id]?=(σ m).hp[id]?
 |0,_,_=>rfl
 |k+1,hle,h=>by
  rw[←p.stillH k (by omega) fun j h1 h2=>h j h1 (by omega)];have hx:xs[m+k]?=some xs[m+k]:=lδ (by omega);obtain⟨st2',f',h1,h2⟩:=od (p.step _ _ hx) (st2:=σ (m+k)) (fun _ _=>rfl) (fun _ _=>rfl) (fun _=>rfl);rw[p.step _ _ hx]at h1;simp only[lα,lκ]at h1;obtain⟨rfl,rfl⟩:=h1;refine h2.hp0 id ?_;cases hw:wr (F (m+k)) id with
  |false=>rfl
  |true=>exact absurd ⟨by omega,hw⟩ (h (m+k) (by omega) (by omega))
theorem pz.stillL (p:pz call base ops xs an σ F){m:Nat}:∀(k:Nat),m+k≤xs.length→(∀j,m≤j→j<m+k→¬Yy xs F j)→(σ (m+k)).hp.length=(σ m).hp.length
 |0,_,_=>rfl
 |k+1,hle,h=>by
  rw[←p.stillL k (by omega) fun j h1 h2=>h j h1 (by omega)];have hx:xs[m+k]?=some xs[m+k]:=lδ (by omega);obtain⟨st2',f',h1,h2⟩:=od (p.step _ _ hx) (st2:=σ (m+k)) (fun _ _=>rfl) (fun _ _=>rfl) (fun _=>rfl);rw[p.step _ _ hx]at h1;simp only[lα,lκ]at h1;obtain⟨rfl,rfl⟩:=h1;refine h2.len0 ?_;cases hw:(F (m+k)).grow with
  |false=>rfl
  |true=>exact absurd ⟨by omega,hw⟩ (h (m+k) (by omega) (by omega))
structure T9 (xs:List dU)(σ:Nat→St)(F:Nat→dC)(X:Nat→Prop)(st:St):Prop where
 T:∀m,m≤xs.length→∀t,(∀j,j<m→Yz xs j t→X j)→(∀j,m≤j→Yz xs j t→¬X j)→get st.tm t=get (σ m).tm t
 H:∀m,m≤xs.length→∀id,(∀j,j<m→Yx xs F j id→X j)→(∀j,m≤j→Yx xs F j id→¬X j)→st.hp[id]?=(σ m).hp[id]?
 L:∀m,m≤xs.length→(∀j,j<m→Yy xs F j→X j)→(∀j,m≤j→Yy xs F j→¬X j)→st.hp.length=(σ m).hp.length
theorem pz.start (p:pz call base ops xs an σ F):T9 xs σ F (fun _=>False) (σ 0) where
 T m hm t h1 _:=by
  have:=p.stillT (m:=0) (t:=t) m (by omega) (fun j _ hj=>fun hw=>h1 j (by omega) hw);simpa using this.symm
 H m hm id h1 _:=by
  have:=p.stillH (m:=0) (id:=id) m (by omega) (fun j _ hj=>fun hw=>h1 j (by omega) hw);simpa using this.symm
 L m hm h1 _:=by
  have:=p.stillL (m:=0) m (by omega) (fun j _ hj=>fun hw=>h1 j (by omega) hw);simpa using this.symm
def Rj (ops:List Oper)(X:Nat→Prop):Prop:=∀(j:Nat) o,ops[j]?=some o→X j→∀d∈kQ o,X d
theorem pz.anc_in (p:pz call base ops xs an σ F){X:Nat→Prop}(hd:Rj ops X):∀(j:Nat),(∀o,ops[j]?=some o→∀d∈kQ o,X d)→j<ops.length→∀x∈an.getD j [],X x:=by
 intro j;induction j using Nat.strongRecOn with
 |_ j ih=>
  intro hj hlt x hx;have ho:ops[j]?=some ops[j]:=lδ hlt;rcases p.anc j _ ho x hx with h|⟨d,hd1,hd2,hx⟩
  ·exact hj _ ho x h
  ·exact ih d hd2 (fun o' ho'=>hd d o' ho' (hj _ ho d hd1)) (by omega) x hx
theorem pz.more (p:pz call base ops xs an σ F){X:Nat→Prop}{st:St}(hd:Rj ops X)(inv:T9 xs σ F X st){i:Nat}{x:dU}(hx:xs[i]?=some x)(hni:¬X i)(hr:∀o,ops[i]?=some o→∀d∈kQ o,X d):
  ∃st' f',K2 call base x st=some (st',f')∧T9 xs σ F (fun j=>X j∨j=i) st':=by
 have hlt:i<xs.length:=by
  rcases lν i xs.length with h|h
  ·exact h
  ·simp[lε h]at hx
 have hanc:∀k∈an.getD i [],X k:=p.anc_in hd i hr (by rw[p.len];exact hlt)
 -- what was run and is not jK from i comes ahead of it
 have before:∀j y,j<i→xs[j]?=some y→X j∨Mn y x (F j) (F i):=fun j y hj hy=>(p.pair j i y x hj hy hx).imp_left (hanc j)
 have behind:∀j y,i<j→xs[j]?=some y→X j→Mn x y (F i) (F j):=fun j y hj hy hX=>(p.pair i j x y hj hx hy).resolve_left fun h=>
  hni (p.anc_in hd j (fun o ho=>hd j o ho hX) (by
   rw[p.len];rcases lν j xs.length with h|h
   ·exact h
   ·simp[lε h]at hy) i h)
 have getx:∀j,j<xs.length→xs[j]?=some (xs.getD j x):=fun j hj=>by rw[lρ,lδ hj];rfl
 obtain⟨st',f',h1,h2⟩:=od (p.step i x hx) (st2:=st)
  (fun t ht=>inv.T i (by omega) t
   (fun j hj ⟨y,hy,hdt⟩=>(before j y hj hy).resolve_right fun ap=>ap.t1 t hdt ht)
   (fun j hj ⟨y,hy,hdt⟩ hX=>by
    rcases Nat.eq_or_lt_of_le hj with rfl|hj
    ·exact hni hX
    ·exact(behind j y hj hy hX).t3 t hdt ht))
  (fun id hid=>inv.H i (by omega) id
   (fun j hj ⟨hl,hw⟩=>(before j _ hj (getx j hl)).resolve_right fun ap=>by have:=ap.r1 id hid;rw[hw]at this;simp at this)
   (fun j hj ⟨hl,hw⟩ hX=>by
    rcases Nat.eq_or_lt_of_le hj with rfl|hj
    ·exact hni hX
    ·have:=(behind j _ hj (getx j hl) hX).r2 id hid;rw[hw]at this;simp at this))
  (fun hg=>inv.L i (by omega)
   (fun j hj ⟨hl,hw⟩=>(before j _ hj (getx j hl)).resolve_right fun ap=>ap.gg ⟨hw,hg⟩)
   (fun j hj ⟨hl,hw⟩ hX=>by
    rcases Nat.eq_or_lt_of_le hj with rfl|hj
    ·exact hni hX
    ·exact(behind j _ hj (getx j hl) hX).gg ⟨hg,hw⟩))
 refine⟨st',f',h1,⟨fun m hm t k1 k2=>?_,fun m hm id k1 k2=>?_,fun m hm k1 k2=>?_⟩⟩
 ·by_cases hdt:x.dst=some t
  ·have him:i<m:=by
    rcases lν i m with h|h
    ·exact h
    ·exact absurd (.inr rfl) (k2 i h ⟨x,hx,hdt⟩)
   rw[h2.tm1 t hdt];have:=p.stillT (t:=t) (m:=i+1) (m - (i+1)) (by omega) (fun j hj1 hj2=>fun⟨y,hy,hyt⟩=>by
    have hX:=(k1 j (by omega) ⟨y,hy,hyt⟩).resolve_right (by omega);exact(behind j y (by omega) hy hX).t2 t hdt hyt)
   rw[show i+1+(m - (i+1))=m by omega]at this;exact this.symm
  ·rw[h2.tm0 t hdt];have hne:∀j,Yz xs j t→j≠i:=by
    rintro j ⟨y,hy,hyt⟩ rfl
    rw[hx]at hy;simp at hy;subst hy;exact hdt hyt
   exact inv.T m hm t (fun j hj hw=>(k1 j hj hw).resolve_right (hne j hw)) (fun j hj hw hX=>k2 j hj hw (.inl hX))
 ·cases hwi:wr (F i) id with
  |true=>
   have him:i<m:=by
    rcases lν i m with h|h
    ·exact h
    ·exact absurd (.inr rfl) (k2 i h ⟨hlt,hwi⟩)
   rw[h2.hp1 id hwi];have:=p.stillH (id:=id) (m:=i+1) (m - (i+1)) (by omega) (fun j hj1 hj2=>fun⟨hl,hw⟩=>by
    have hX:=(k1 j (by omega) ⟨hl,hw⟩).resolve_right (by omega);have ap:=behind j _ (by omega) (getx j hl) hX;rw[wr_iff]at hwi hw;rcases hwi with h|⟨hg,hlim⟩
    ·have:=ap.r2 id (.inr h);rw[wr_iff.2 hw]at this;simp at this
    ·rcases hw with h|⟨hg',_⟩
     ·have:=ap.r1 id (.inr h);have hh:wr (F i) id=true:=wr_iff.2 (.inr ⟨hg,hlim⟩);rw[hh]at this;simp at this
     ·exact ap.gg ⟨hg,hg'⟩)
   rw[show i+1+(m - (i+1))=m by omega]at this;exact this.symm
  |false=>
   rw[h2.hp0 id hwi];have hne:∀j,Yx xs F j id→j≠i:=by
    rintro j ⟨hl,hw⟩ rfl
    rw[hwi]at hw;simp at hw
   exact inv.H m hm id (fun j hj hw=>(k1 j hj hw).resolve_right (hne j hw)) (fun j hj hw hX=>k2 j hj hw (.inl hX))
 ·cases hwi:(F i).grow with
  |true=>
   have him:i<m:=by
    rcases lν i m with h|h
    ·exact h
    ·exact absurd (.inr rfl) (k2 i h ⟨hlt,hwi⟩)
   rw[h2.len1 hwi];have:=p.stillL (m:=i+1) (m - (i+1)) (by omega) (fun j hj1 hj2=>fun⟨hl,hw⟩=>by
    have hX:=(k1 j (by omega) ⟨hl,hw⟩).resolve_right (by omega);exact(behind j _ (by omega) (getx j hl) hX).gg ⟨hwi,hw⟩)
   rw[show i+1+(m - (i+1))=m by omega]at this;exact this.symm
  |false=>
   rw[h2.len0 hwi];have hne:∀j,Yy xs F j→j≠i:=by
    rintro j ⟨hl,hw⟩ rfl
    rw[hwi]at hw;simp at hw
   exact inv.L m hm (fun j hj hw=>(k1 j hj hw).resolve_right (hne j hw)) (fun j hj hw hX=>k2 j hj hw (.inl hX))
theorem T9.all {X:Nat→Prop}{st:St}(inv:T9 xs σ F X st)(h:∀j,j<xs.length→X j):(∀t,get st.tm t=get (σ xs.length).tm t)∧st.hp=(σ xs.length).hp:=by
 refine⟨fun t=>inv.T _ (Nat.le_refl _) t (fun j hj _=>h j hj) (fun j hj ⟨y,hy,_⟩=>by rw[lε hj]at hy;simp at hy),?_⟩
 apply List.ext_getElem?;intro id;exact inv.H _ (Nat.le_refl _) id (fun j hj _=>h j hj) (fun j hj ⟨hl,_⟩=>absurd hj (by omega))
end
end Go.Ab
end
section
namespace Go.Ab
open Go
variable [Letters] [Mv]
def cm (listed:Array Bool)(j:Nat):Prop:=listed[j]?=some true
section
variable {P:Program} {G:bF} {N:Nat} {call:aG} {base:Nat} {ops:Array Oper} {xs:List dU} {an:List (List Nat)} {σ:Nat→St} {F:Nat→dC}
theorem yx {listed:Array Bool}(hs:listed.size=ops.size){i:Nat}:i∈Region.ready .any ops listed↔i<ops.size∧listed[i]?=some false∧∀o,ops[i]?=some o→∀d∈kQ o,cm listed d:=by
 unfold Region.ready;rw[List.mem_filter];have hget:∀{j:Nat},listed.getD j false=true↔cm listed j:=by
  intro j;unfold cm;rw[Array.getD_eq_getD_getElem?];cases listed[j]? with
  |none=>simp
  |some b=>simp
 constructor
 ·rintro⟨h1,h2⟩
  have hi:i<ops.size:=by simpa using h1
  rw[lγ]at h2;obtain⟨h3,h4⟩:=h2;have hl:listed[i]?=some listed[i]:=Array.getElem?_eq_getElem (by omega);refine⟨hi,?_,?_⟩
  ·rw[Array.getD_eq_getD_getElem?,hl]at h3;rw[hl];simpa using h3
  ·intro o ho d hd;rw[ho]at h4;simp only[Option.map_some,Option.getD_some]at h4;simp only[kQ,List.mem_map,List.mem_filter]at hd;obtain⟨e,⟨he,hb⟩,rfl⟩:=hd;have h5:=Array.all_eq_true'.1 h4 e (by simpa using he);have:iz e=Region.binds .any e:=rfl;rw[←this,hb]at h5;exact hget.1 (by simpa using h5)
 ·rintro⟨hi,hl,h⟩
  refine⟨by simpa using hi,?_⟩
  rw[lγ];refine⟨by rw[Array.getD_eq_getD_getElem?,hl];rfl,?_⟩
  have ho:ops[i]?=some ops[i]:=Array.getElem?_eq_getElem hi;rw[ho];simp only[Option.map_some,Option.getD_some];rw[Array.all_eq_true'];intro e he;cases hb:iz e with
  |false=>
   have:Region.binds .any e=false:=hb;simp[this]
  |true=>
   have:=h _ ho e.on (by
    simp only[kQ,List.mem_map,List.mem_filter];exact⟨e,⟨by simpa using he,hb⟩,rfl⟩)
   rw[hget.2 this];simp
theorem AO (p:pz call base ops.toList xs an σ F){listed:Array Bool}(hs:listed.size=ops.size)(h:Region.ready .any ops listed=[]):∀j,j<xs.length→cm listed j:=by
 intro j;induction j using Nat.strongRecOn with
 |_ j ih=>
  intro hj;have hjo:j<ops.size:=by have:=p.len;simp at this;omega
  have hl:listed[j]?=some listed[j]:=Array.getElem?_eq_getElem (by omega);cases hc:listed[j]with
  |true=>unfold cm;rw[hl,hc]
  |false=>
   exfalso;have:j∈Region.ready .any ops listed:=(yx hs).2 ⟨hjo,by rw[hl,hc],fun o ho d hd=>by
    have:=p.back j o (by simpa using ho) d hd;exact ih d this (by omega)⟩
   rw[h]at this;simp at this
theorem KG {l:List Bool}:∀{i:Nat},l[i]?=some false→(l.set i true).count false+1=l.count false:=by
 induction l with
 |nil=>intro i h;simp at h
 |cons x r ih=>
  intro i h;cases i with
  |zero=>simp at h;subst h;simp
  |succ i=>
   simp at h;have:=ih h;cases x<;>simp[List.count_cons]<;>omega
theorem Vm (hcall:eV P G call)(p:pz call base ops.toList xs an σ F){raw:Nat→Bool}(hx:Pw (RA P G raw N ops.toList) ops.toList xs){Q:Exit→Act→World→Prop}:∀(aO:Nat) (listed:Array Bool) (st:St) (a:Act) (φ:List cb) (w:World) (S:Nat→Prop),listed.size=ops.size→listed.toList.count false≤aO→
  Rj ops.toList (cm listed)→T9 xs σ F (cm listed) st→ow G N a φ w S st→base≤st.hp.length→
  (∀a' w' φ' S',ow G N a' φ' w' S' (σ xs.length)→Fr (bf φ st.hp) S w (bf φ' (σ xs.length).hp) S' w'→(∀id,id<base→φ'[id]?=φ[id]?)→base≤(σ xs.length).hp.length→Q .normal a' w')→
  wpAny P .any ops Q aO listed a w:=by
 have ij:∀(listed:Array Bool) (st:St) (a:Act) (φ:List cb) (w:World) (S:Nat→Prop),T9 xs σ F (cm listed) st→ow G N a φ w S st→base≤st.hp.length→
   (∀a' w' φ' S',ow G N a' φ' w' S' (σ xs.length)→Fr (bf φ st.hp) S w (bf φ' (σ xs.length).hp) S' w'→(∀id,id<base→φ'[id]?=φ[id]?)→base≤(σ xs.length).hp.length→Q .normal a' w')→
   (∀j,j<xs.length→cm listed j)→Q .normal a w:=by
  intro listed st a φ w S inv rel hb hQ hall;obtain⟨h1,h2⟩:=inv.all hall;refine hQ a w φ S ⟨fun t=>by rw[←h1 t];exact rel.tmr t,rel.gr,by rw[←h2];exact rel.hr,rel.size,rel.defers⟩ ?_ (fun _ _=>rfl) (by rw[←h2];exact hb)
  rw[←h2];exact Fr.refl _ _ _
 intro aO;induction aO with
 |zero=>
  intro listed st a φ w S hs hc hd inv rel hb hQ;simp only[wpAny];have hno:∀j:Nat,listed[j]?≠some false:=by
   intro j hj;have hm:false∈listed.toList:=mξ (by simpa using hj);have:=List.count_pos_iff.2 hm;omega
  have hnil:Region.ready .any ops listed=[]:=by
   cases hr:Region.ready .any ops listed with
   |nil=>rfl
   |cons i r=>
    have:i∈Region.ready .any ops listed:=by rw[hr];simp
    exact absurd ((yx hs).1 this).2.1 (hno i)
  exact⟨hnil,ij listed st a φ w S inv rel hb hQ (AO p hs hnil)⟩
 |succ aO ih=>
  intro listed st a φ w S hs hc hd inv rel hb hQ;simp only[wpAny];refine⟨fun hnil=>ij listed st a φ w S inv rel hb hQ (AO p hs hnil),fun i hi=>?_⟩
  obtain⟨hio,hlf,hpr⟩:=(yx hs).1 hi;have ho:ops.toList[i]?=some ops[i]:=by simp[hio]
  obtain⟨x,hxi,hox⟩:=hx.get ho;have hni:¬cm listed i:=by unfold cm;rw[hlf];simp
  obtain⟨st',f',hev,inv'⟩:=p.more hd inv hxi hni (fun o ho' d hd'=>hpr o (by simpa using ho') d hd');have hli:i<listed.size:=by omega
  have hX:∀j,cm (listed.setIfInBounds i true) j↔(cm listed j∨j=i):=by
   intro j;unfold cm;rw[Array.getElem?_setIfInBounds];by_cases hij:i=j
   ·subst hij;simp[hli]
   ·simp[hij];intro e;exact absurd e.symm hij
  have hs':(listed.setIfInBounds i true).size=ops.size:=by simpa using hs
  have hc':(listed.setIfInBounds i true).toList.count false≤aO:=by
   have:=KG (l:=listed.toList) (i:=i) (by simpa using hlf);simp only[Array.toList_setIfInBounds];omega
  have hd':Rj ops.toList (cm (listed.setIfInBounds i true)):=by
   intro j o hj hXj d hdp;rw[hX]at hXj ⊢
   rcases hXj with h|rfl
   ·exact .inl (hd j o hj h d hdp)
   ·exact .inl (hpr o (by simpa using hj) d hdp)
  have hinv':T9 xs σ F (cm (listed.setIfInBounds i true)) st':=by
   have:cm (listed.setIfInBounds i true)=fun j=>cm listed j∨j=i:=by funext j;exact propext (hX j)
   rw[this];exact inv'
  have hop:ops[i]?=some ops[i]:=Array.getElem?_eq_getElem hio;simp only[wpOp,hop];unfold K2 at hev;split at hev
  ·simp at hev
  ·rename_i hgd;rw[if_pos (by rw[q9 rel.tmr hox hgd])];refine .inl (UB hcall rel hox.op hox.dst hox.lt hb hev fun a' w' φ' S' rel' hf hφ=>?_);refine ih _ st' a' φ' w' S' hs' hc' hd' hinv' rel' (mρ hb (En hev)) fun a2 w2 φ2 S2 r1 r2 r3 r4=>hQ a2 w2 φ2 S2 r1 (hf.trans r2) (fun id hid=>(r3 id hid).trans (hφ id hid)) r4
  ·rename_i hgd;rw[if_neg (by rw[q9 rel.tmr hox hgd];simp)];have hdo:Ae (ops[i]).dst a:=fun t ht=>mτ (hox.lt t ht) rel.size
   simp only[lα,lκ]at hev;obtain⟨rfl,rfl⟩:=hev;rw[hox.dst]at hinv';exact ih _ _ _ φ w S hs' hc' hd' hinv' (rel.skip hdo) hb hQ
variable {a:Act} {φ:List cb} {w:World} {S:Nat→Prop} {st:St}
theorem ow.drawn (h:ow G N a φ w S st)(n:Nat):ow G N a φ {w with drawn:=n} S st:=by
 have hst:dJ S w {w with drawn:=n}:=fun _ _=>rfl
 exact⟨je (Ext.refl φ) hst (fun _ h=>h) h.tmr,uZ hst (fun _ h=>h) h.gr,⟨h.hr.len,fun id l o h1 h2=>qB (Ext.refl φ) hst (fun _ h=>h) (fun _ _=>rfl) (h.hr.obj id l o h1 h2),h.hr.own,h.hr.one,h.hr.low⟩,h.size,h.defers⟩
theorem H2 (hcall:eV P G call)(hm:P.follows .mixedOrders=true){raw:Nat→Bool}{id:Nat}{xs:List dU}{nal k:Nat}{ps:List (Nat×Nat)}{Q:Exit→Act→World→Prop}{stn:St}{m:Nat}(hx:GY P G raw N ops.toList ops.toList 0=some (xs,k))
  (hed:gD ops.toList 0=true) (hps:kM xs (zi ops.toList []) (List.range xs.length)=some ps) (hev:qW call nal xs (some ps) st=some stn)
  (rel:ow G N a φ w S st) (hmm:m≤st.hp.length) (hQ:∀a' w',Later G N m φ w S st stn a' w'→Q .normal a' w'):(Code.region id ops true).wp P Q a w:=by
 have hpw:=BU hx;simp only[qW]at hev;split at hev
 ·rename_i st2 fs hseq;obtain⟨hap,hev⟩:=fZ hev;simp only[lα]at hev;subst hev;obtain⟨σ,F,hσ0,hσn,plan⟩:=TM hpw.1 hed hps hseq hap;have hlen:=rel.hr.len;have hres:=rel.hr.reserve nal;refine wp_region_any hm (Vm hcall plan hpw ops.size _ (σ 0) a (φ++List.replicate nal .none) _ S (by simp) (by simp) (fun j o hj hX=>?_) ?_ (by rw[hσ0];exact(rel.reserve nal).drawn _) (by rw[hσ0];simp[gU]) fun a' w' φ' S' r1 r2 r3 r4=>hQ a' w' ?_)
  ·simp[cm]at hX;rw[Array.getElem?_replicate]at hX;split at hX<;>simp at hX
  ·have:cm (Array.replicate ops.size false)=fun _=>False:=by
    funext j
    unfold cm;rw[Array.getElem?_replicate];split<;>simp
   rw[this];exact plan.start
  ·rw[hσn]at r1 r2 r4;rw[hσ0]at r2;refine⟨φ',S',r1,?_,fun id hid=>by rw[r3 id (by omega),lη (by omega)],mρ hmm r4⟩
   refine Fr.trans (O1:=bf (φ++List.replicate nal .none) (grow st.hp (List.replicate nal .unborn))) (S1:=S) (w1:={w with drawn:=w.drawn+1}) ?_ r2;rw[gU];exact⟨fun _ _ _=>rfl,Nat.le_refl _,rfl,rfl,rfl,fun _ h=>h,fun _ h=> .inl h,fun b hb=> .inl (hres.2.1 b hb)⟩
 ·simp at hev
end
end Go.Ab
end
section
namespace Go.Ab
open Go
variable [Letters] [Mv]
section
variable {P:Program} {G:bF} {N m:Nat} {call:aG} {a:Act} {φ:List cb} {w:World} {S:Nat→Prop} {st st':St} {hp:List Ob}
theorem Later.refl (rel:ow G N a φ w S st)(hm:m≤st.hp.length):Later G N m φ w S st st a w:=⟨φ,S,rel,Fr.refl _ _ _,fun _ _=>rfl,hm⟩
theorem GO {cs:List D}{k i lo len z:Nat}(h:b3 (cs.set k (.arr i lo len z))=true):b3 cs=true:=by
 unfold b3 at h ⊢
 rw[List.length_set]at h;rw[lγ]at h ⊢
 refine⟨h.1,?_⟩;have h2:=h.2;cases cs with
 |nil=>exact h2
 |cons d r=>
  cases k with
  |zero=>exact absurd h2 (by simp[pH])
  |succ k=>cases d<;>first|exact h2|(rename_i x;cases x<;>exact h2)
theorem HR.push (hr:HR φ w S hp){l:cb}{o:Ob}(hob:OR (φ++[l]) w S l o)(hown:∀b,bz l o≠some b):HR (φ++[l]) w S (hp++[o])∧(∀b,bf (φ++[l]) (hp++[o]) b→bf φ hp b)∧Ext φ (φ++[l]):=by
 have hext:Ext φ (φ++[l]):=by
  intro id x hl _;have:id<φ.length:=by
   rcases lν id φ.length with h|h
   ·exact h
   ·simp[lε h]at hl
  rw[lη this];exact hl
 have hat:∀{id:Nat} {x:cb} {y:Ob},(φ++[l])[id]?=some x→(hp++[o])[id]?=some y→(φ[id]?=some x∧hp[id]?=some y)∨(x=l∧y=o):=by
  intro id x y h1 h2;rcases lν id hp.length with h|h
  ·rw[lη h]at h2;rw[lη (by rw[hr.len];exact h)]at h1;exact .inl ⟨h1,h2⟩
  ·rw[lξ h]at h2;rw[lξ (by rw[hr.len];exact h),hr.len]at h1;cases hk:id - hp.length with
   |zero=>rw[hk]at h1 h2;simp at h1 h2;exact .inr ⟨h1.symm,h2.symm⟩
   |succ n=>rw[hk]at h1;simp at h1
 have hown':∀b,bf (φ++[l]) (hp++[o]) b→bf φ hp b:=by
  rintro b ⟨id,x,y,h1,h2,h3⟩
  rcases hat h1 h2 with⟨g1,g2⟩|⟨rfl,rfl⟩
  ·exact⟨id,x,y,g1,g2,h3⟩
  ·exact absurd h3 (hown b)
 refine⟨⟨by simp[hr.len],?_,fun b hb=>hr.own b (hown' b hb),?_,hr.low⟩,hown',hext⟩
 ·intro id x y h1 h2;rcases hat h1 h2 with⟨g1,g2⟩|⟨rfl,rfl⟩
  ·exact qB hext (fun _ _=>rfl) (fun _ h=>h) (fun _ _=>rfl) (hr.obj id x y g1 g2)
  ·exact hob
 ·intro id id' x x' y y' b h1 h2 h1' h2' h3 h3';rcases hat h1 h2 with⟨g1,g2⟩|⟨rfl,rfl⟩
  ·rcases hat h1' h2' with⟨g1',g2'⟩|⟨rfl,rfl⟩
   ·exact hr.one id id' x x' y y' b g1 g2 g1' g2' h3 h3'
   ·exact absurd h3' (hown b)
  ·exact absurd h3 (hown b)
theorem Jq {d:D}{v:Value}(h:VR φ w S d v)(ho:LE d=true):∃ad,v= .slice ad 0 0:=by
 unfold LE at ho;split at ho
 ·simp only[VR]at h;obtain⟨ad,cap,us,rfl,h1,h2,_⟩:=h;simp only[gv]at h2;have:us=[]:=lι (by omega);subst this;exact⟨ad,by rw[h2.2];rfl⟩
 ·simp only[VR,oD]at h;obtain⟨ad,cap,us,rfl,h1,h2,h3,_⟩:=h;subst h3;simp only[gv]at h2;subst h2;exact⟨ad,rfl⟩
 ·simp at ho
theorem DI {ad:Option Addr}{z:Nat}{id:Nat}(h:φ[id]?=some (.arr 0 0 0 z 0)):VR φ w S (.arr id 0 0 z) (.slice ad 0 0):=by
 simp only[VR];exact⟨0,0,0,0,ad,h,by simp,by simp,by simp,by simp⟩
theorem ym (hr:HR φ w S hp)(z:Nat):HR (φ++[.arr 0 0 0 z 0]) w S (hp++[.arr []])∧(∀b,bf (φ++[.arr 0 0 0 z 0]) (hp++[.arr []]) b→bf φ hp b)∧Ext φ (φ++[.arr 0 0 0 z 0]):=
 hr.push (by
  simp only[OR];exact⟨rfl,Nat.le_refl _,fun h=>absurd h (Nat.lt_irrefl 0),[],Pw.nil,by intro i u hu;simp at hu⟩) (by intro b;simp[bz])
theorem DH {tm:Tm}{s:Nat}{d:D}(h:Ml φ w S tm a)(hd:VR φ w S d (a.tmps.getD s undef)):Ml φ w S (.cons s d tm) a:=by
 intro t;simp only[get];rw[beq_eq];by_cases hs:s=t
 ·subst hs;simpa using hd
 ·simp only[hs,decide_false,cond_false];exact h t
theorem Lg (rel:ow G N a φ w S st)(hm:m≤st.hp.length){n:Nat}{ws:List Nat}(live:List Nat):Later G N m φ w S st ⟨eh live (mapD (idx (close st.hp n ws (List.range m)))) st.tm,bB (close st.hp n ws (List.range m)) st.hp⟩ a w:=by
 have hnd:=(ec (hp:=st.hp) n ws (List.range m) List.nodup_range).1;have hlen:=rel.hr.len;refine⟨ir (close st.hp n ws (List.range m)) φ,S,⟨fun t=>?_,rel.gr,rel.hr.shrink hnd,rel.size,rel.defers⟩,(Fr.refl _ _ _).less fun b hb=>Ja rel.hr _ hb,fun id hid=>Ap (by omega) hid,?_⟩
 ·rw[xv];split
  ·exact wO (oh _ φ) _ (rel.tmr t)
  ·simp only[VR]
 ·obtain⟨r,hr⟩:=(ec (hp:=st.hp) n ws (List.range m) List.nodup_range).2;simp only[bB,lθ];rw[←hr];simp
theorem PH (rel:ow G N a φ w S st)(s off:Nat):∃v,VR φ w S (Yl st s off) v:=by
 unfold Yl;cases Nat.ble 1000 off
 ·exact⟨_,rel.tmr s⟩
 ·simp only[cond_true];split
  ·rename_i id o hs;have hvs:=rel.tmr s;rw[hs]at hvs;simp only[VR]at hvs;obtain⟨b,hb,_⟩:=hvs;split
   ·rename_i cs hcs;have hob:=ef hcs (by simp);obtain⟨vs0,t0,fz0,e1,e2,e3,e4,_⟩:=rel.hr.obj id _ _ hb hob;cases hd:cs[o]? with
    |none=>
     refine⟨undef,?_⟩;rw[lρ,hd];simp only[Option.getD_none,VR]
    |some d=>
     obtain⟨v,hv1,hv2⟩:=e3.get hd;refine⟨v,?_⟩;rw[lρ,hd];exact hv2
   ·exact⟨undef,by simp only[VR]⟩
  ·exact⟨undef,by simp only[VR]⟩
theorem I1 {g:Gh}(h:jD m g st=some st')(rel:ow G N a φ w S st)(hm:m≤st.hp.length):Later G N m φ w S st st' a w:=by
 have hlen:=rel.hr.len;cases g with
 |own s z=>
  simp only[jD]at h;cases hc:LE (get st.tm s)with
  |false=>rw[hc]at h;simp at h;subst h;exact Later.refl rel hm
  |true=>
   rw[hc]at h;simp only[cond_true,lα]at h;subst h;obtain⟨h1,h2,h3⟩:=ym rel.hr z;obtain⟨ad,hv⟩:=Jq (rel.tmr s) hc;refine⟨φ++[.arr 0 0 0 z 0],S,⟨DH (je h3 (fun _ _=>rfl) (fun _ h=>h) rel.tmr) ?_,rel.gr,h1,rel.size,rel.defers⟩,(Fr.refl _ _ _).less h2,fun id hid=>lη (by omega),by simp;omega⟩
   rw[hv];exact DI (by rw[←hlen];simp)
 |ownc s off z=>
  simp only[jD]at h;split at h
  ·rename_i id o hs;split at h
   ·rename_i cs hcs;split at h
    ·rename_i d hd;cases hc:LE d with
     |false=>rw[hc]at h;simp at h;subst h;exact Later.refl rel hm
     |true=>
      rw[hc]at h;simp only[cond_true,lα]at h;subst h;obtain⟨h1,h2,h3⟩:=ym rel.hr z;have hob:=ef hcs (by simp);obtain⟨v0,hvs⟩:=PH rel s off;rw[hs]at hvs;simp only[VR]at hvs;obtain⟨b,hb,_⟩:=hvs;have hidl:id<st.hp.length:=by
       rcases lν id st.hp.length with h|h
       ·exact h
       ·simp[lε h]at hob
      have hob1:(st.hp++[Ob.arr []])[id]?=some (.box cs):=by rw[lη hidl];exact hob
      have hb1:(φ++[cb.arr 0 0 0 z 0])[id]?=some (.box b):=by rw[lη (by omega)];exact hb
      obtain⟨vs,t,fz,g1,g2,g3,g4,g5⟩:=h1.obj id _ _ hb1 hob1;obtain⟨v,hv1,hv2⟩:=g3.get hd;obtain⟨ad,hv⟩:=Jq hv2 hc;have hphi:(φ++[cb.arr 0 0 0 z 0]).set id (.box b)=φ++[cb.arr 0 0 0 z 0]:=dB hb1;have hnew:(φ++[cb.arr 0 0 0 z 0])[st.hp.length]?=some (.arr 0 0 0 z 0):=by rw[←hlen];simp
      have hown:=h1.own b ⟨id,_,_,hb1,hob1,rfl⟩;obtain⟨k1,k2,k3⟩:=h1.one_step (S':=S) (w':=w) (l':= .box b) (o':= .box (cs.set (o+La off) (.arr st.hp.length 0 0 z))) hb1 hob1 (fun _=>rfl) (fun _ _ _=>rfl) (Nat.le_refl _) rfl rfl rfl (fun _ h=>h) (fun _ h=> .inl h) h1.low (by
       rw[hphi];simp only[OR];refine⟨vs,t,fz,g1,g2,?_,g4,fun hh=>g5 (GO hh)⟩
       have:=g3.set (o+La off) (x:= .arr st.hp.length 0 0 z) (v:=v) (by rw[hv];exact DI hnew);rwa [dB hv1]at this) (by
       intro b' hb';simp only[bz,lα]at hb';subst hb';exact⟨.inl rfl,hown.2,hown.1⟩)
      rw[hphi]at k1 k2;have he:rG st.hp id (.box (cs.set (o+La off) (.arr st.hp.length 0 0 z)))++[Ob.arr []]=(st.hp++[Ob.arr []]).set id (.box (cs.set (o+La off) (.arr st.hp.length 0 0 z))):=by
       rw[aY,List.set_append_left _ _ hidl]
      refine⟨φ++[.arr 0 0 0 z 0],S,⟨je h3 (fun _ _=>rfl) (fun _ h=>h) rel.tmr,rel.gr,by rw[he];exact k1,rel.size,rel.defers⟩,?_,fun id hid=>lη (by omega),by simp[aY];omega⟩
      rw[he];exact Fr.trans ((Fr.refl _ _ _).less h2) k2
    ·simp at h
   ·simp at h
  ·simp at h
 |frz s=>
  simp only[jD]at h;split at h
  ·rename_i x hx;simp only[lα]at h;subst h;have hz:((dids (get st.tm s)).map fun i=>(i,aP st.hp i))=(dids (get st.tm s)).zip ((dids (get st.tm s)).map (aP st.hp)):=(rW (aP st.hp) _).symm;rw[hz]at hx ⊢
   obtain⟨h1,h2⟩:=rel.hr.freeze (dids (get st.tm s));have hv:=lW rel.hr (S':=Dq φ S st.hp (dids (get st.tm s))) (fun _ h=> .inl h) mH _ hx (rel.tmr s);refine⟨φ,_,⟨DH (je (Ext.refl φ) (fun _ _=>rfl) (fun _ h=> .inl h) rel.tmr) (by simp only[VR];exact hv),uZ (fun _ _=>rfl) (fun _ h=> .inl h) rel.gr,h1,rel.size,rel.defers⟩,h2,fun _ _=>rfl,by rw[bt];exact hm⟩
  ·simp at h
 |frzc s off=>
  simp only[jD]at h;split at h
  ·rename_i id o hs;split at h
   ·rename_i cs hcs;split at h
    ·rename_i d hd;cases hc:(dids d).contains id with
     |true=>rw[hc]at h;simp at h
     |false=>
      rw[hc]at h;simp only[cond_false]at h;split at h
      ·rename_i x hx;cases hbt:(b3 (cs.set (o+La off) (.p x))&&!b3 cs)with
       |true=>rw[hbt]at h;simp at h
       |false=>
       simp only[hbt,cond_false,lα]at h;subst h;have hb3:b3 (cs.set (o+La off) (.p x))=true→b3 cs=true:=fun hh=>by rw[hh]at hbt;simpa using hbt
       have hni:id∉dids d:=by simpa using hc
       have hz:((dids d).map fun i=>(i,aP st.hp i))=(dids d).zip ((dids d).map (aP st.hp)):=(rW (aP st.hp) _).symm;rw[hz]at hx ⊢
       obtain⟨h1,h2⟩:=rel.hr.freeze (dids d);have hob:=ef hcs (by simp);obtain⟨v0,hvs⟩:=PH rel s off;rw[hs]at hvs;simp only[VR]at hvs;obtain⟨b,hb,_⟩:=hvs;obtain⟨vs0,t0,fz0,e1,e2,e3,e4,_⟩:=rel.hr.obj id _ _ hb hob;obtain⟨v,hv1,hv2⟩:=e3.get hd;have hv:=lW rel.hr (S':=Dq φ S st.hp (dids d)) (fun _ h=> .inl h) mH _ hx hv2;have hob1:(ao st.hp (cG ((dids d).zip ((dids d).map (aP st.hp)))))[id]?=some (.box cs):=by
        rw[xq,eJ,if_neg (fun h=>hni h.1)];exact hob
       obtain⟨vs,t,fz,g1,g2,g3,g4,g5⟩:=h1.obj id _ _ hb hob1;have hvv:vs=vs0:=by
        rw[e1]at g1;simp at g1;exact g1.1.symm
       subst hvv;have hphi:φ.set id (.box b)=φ:=dB hb;have hown:=h1.own b ⟨id,_,_,hb,hob1,rfl⟩;obtain⟨k1,k2,k3⟩:=h1.one_step (S':=Dq φ S st.hp (dids d)) (w':=w) (l':= .box b) (o':= .box (cs.set (o+La off) (.p x))) hb hob1 (fun _=>rfl) (fun _ _ _=>rfl) (Nat.le_refl _) rfl rfl rfl (fun _ h=>h) (fun _ h=> .inl h) h1.low (by
        rw[hphi];simp only[OR];refine⟨vs,t,fz,g1,g2,?_,g4,fun hh=>g5 (hb3 hh)⟩
        have:=g3.set (o+La off) (x:= .p x) (v:=v) (by simp only[VR];exact hv);rwa [dB hv1]at this) (by
        intro b' hb';simp only[bz,lα]at hb';subst hb';exact⟨.inl rfl,hown.2,hown.1⟩)
       rw[hphi]at k1 k2;refine⟨φ,Dq φ S st.hp (dids d),⟨je (Ext.refl φ) (fun _ _=>rfl) (fun _ h=> .inl h) rel.tmr,uZ (fun _ _=>rfl) (fun _ h=> .inl h) rel.gr,by rw[aY];exact k1,rel.size,rel.defers⟩,?_,fun _ _=>rfl,by rw[aY,List.length_set,bt];exact hm⟩
       rw[aY];exact Fr.trans h2 k2
      ·simp at h
    ·simp at h
   ·simp at h
  ·simp at h
 |keep live=>
  simp only[jD,lα]at h;subst h;exact Lg rel hm live
theorem Later.bind {φ1:List cb}{S1:Nat→Prop}{w1:World}{st1 st2:St}{a2:Act}{w2:World}(hf:Fr (bf φ st.hp) S w (bf φ1 st1.hp) S1 w1)(hφ:∀id,id<m→φ1[id]?=φ[id]?)(h:Later G N m φ1 w1 S1 st1 st2 a2 w2):Later G N m φ w S st st2 a2 w2:=by
 obtain⟨φ2,S2,r1,r2,r3,r4⟩:=h;exact⟨φ2,S2,r1,hf.trans r2,fun id hid=>(r3 id hid).trans (hφ id hid),r4⟩
def y3 (ex:Ex):Exit→Prop
 | .normal=>ex= .norm
 | .exit i=>ex= .exit i
 | .ret=>ex= .ret
 |_=>False
def Post (G:bF)(N m:Nat)(φ:List cb)(w:World)(S:Nat→Prop)(st:St)(r:Ex×St)(e:Exit)(a':Act)(w':World):Prop:=y3 r.1 e∧Later G N m φ w S st r.2 a' w'
theorem Post.bind {φ1:List cb}{S1:Nat→Prop}{w1:World}{st1:St}{r:Ex×St}{e:Exit}{a2:Act}{w2:World}(hf:Fr (bf φ st.hp) S w (bf φ1 st1.hp) S1 w1)(hφ:∀id,id<m→φ1[id]?=φ[id]?)(h:Post G N m φ1 w1 S1 st1 r e a2 w2):Post G N m φ w S st r e a2 w2:=
 ⟨h.1,h.2.bind hf hφ⟩
theorem C8 {c:Code}{Q:Exit→Act→World→Prop}(I:Nat→Act→World→Prop)(zero:∀a w,¬I 0 a w)(round:∀n a w,I (n+1) a w→c.wp P (Exit.then (I n) Q) a w){n:Nat}(h₀:I n a w):(Code.loop c).wp P Q a w:=by
 intro b k cs;have key:∀n a w,I n a w→∃e a' w',Q e a' w'∧Arrives P (lone (b.at a (.code c:: .inLoop c::k)) cs w) b k cs e a' w':=by
  intro n;induction n with
  |zero=>intro a w h;exact absurd h (zero a w)
  |succ n ih=>
   intro a w hI;obtain⟨e,a₁,w₁,hq,harr⟩:=round n a w hI b (.inLoop c::k) cs;cases e with
   |normal=>
    obtain⟨e₂,a₂,w₂,hq₂,harr₂⟩:=ih a₁ w₁ hq;exact⟨e₂,a₂,w₂,hq₂,.of_steps (Steps.trans harr (.one step_inLoop)) harr₂⟩
   |exit id=>exact⟨_,a₁,w₁,hq,.pass (x:= .inLoop c) rfl (fun _ _=> .inl (by simp)) harr⟩
   |goto l=>exact⟨_,a₁,w₁,hq,.pass (x:= .inLoop c) rfl (fun _ _=> .inl (by simp)) harr⟩
   |ret=>exact⟨_,a₁,w₁,hq,.pass (x:= .inLoop c) rfl (fun _ _=> .inl (by simp)) harr⟩
   |panic ch=>exact⟨_,a₁,w₁,hq,.pass (x:= .inLoop c) rfl (fun _ _=> .inl (by simp)) harr⟩
   |outgrown=>exact⟨_,a₁,w₁,hq,.pass (x:= .inLoop c) rfl (fun _ _=> .inl (by simp)) harr⟩
 obtain⟨e,a',w',hq,harr⟩:=key n a w h₀;exact⟨e,a',w',hq,.of_steps (.one step_loop) harr⟩
end
end Go.Ab
end
section
namespace Go.Ab
open Go
variable [Letters] [Mv]
section
variable {P:Program} {G:bF} {raw:Nat→Bool} {N m:Nat} {call:aG} {a:Act} {φ:List cb} {w:World} {S:Nat→Prop} {st st':St} {hp:List Ob}
def A4 (P:Program)(G:bF)(raw:Nat→Bool)(N:Nat)(c:Code):Co→Prop
 | .skip=>c= .skip
 | .reg nal xs ps _=>(∃id ops draw,c= .region id ops draw∧GZ P G raw N ops.toList draw=some (.reg nal xs ps []))∨(nal=0∧xs=[⟨none,.pan,[],0,none⟩]∧ps=none)
 | .seq x y=>∃a b,c= .seq a b∧BS P G raw N a=some x∧BS P G raw N b=some y
 | .cond z x y=>∃o a b,c= .cond o a b∧cA P G 0 o=some z∧BS P G raw N a=some x∧BS P G raw N b=some y
 | .block id x=>∃a,c= .block id a∧BS P G raw N a=some x
 | .loop _ x=>∃a,c= .loop a∧BS P G raw N a=some x
 | .exit id=>c= .exit id
 | .ret=>c= .ret
 | .gh _ _=>False
theorem nj {c:Code}{k:Co}(h:BS P G raw N c=some k):A4 P G raw N c k:=by
 cases c<;>simp only[BS]at h;case skip=>simp only[lα]at h;subst h;rfl
 case region id ops draw=>
  have h0:=h;unfold GZ at h;split at h
  ·simp at h
  ·rename_i xs n hx;cases draw with
   |false=>
    simp only[cond_false,lα]at h;subst h;exact .inl ⟨id,ops,false,rfl,h0⟩
   |true=>
    simp only[cond_true]at h;obtain⟨_,h⟩:=fZ h;split at h
    ·simp only[lα]at h;subst h;exact .inl ⟨id,ops,true,rfl,h0⟩
    ·simp at h
 case seq a b=>
  split at h
  ·rename_i x y hx hy;simp only[lα]at h;subst h;exact⟨a,b,rfl,hx,hy⟩
  ·simp at h
 case cond o a b=>
  split at h
  ·rename_i z x y hz hx hy;simp only[lα]at h;subst h;exact⟨o,a,b,rfl,hz,hx,hy⟩
  ·simp at h
 case block id b=>
  split at h
  ·rename_i x hx;simp only[lα]at h;subst h;exact⟨b,rfl,hx⟩
  ·simp at h
 case loop b=>
  split at h
  ·rename_i x hx;simp only[lα]at h;subst h;exact⟨b,rfl,hx⟩
  ·simp at h
 case exit id=>simp only[lα]at h;subst h;rfl
 case ret=>simp only[lα]at h;subst h;rfl
 case refuse y=>simp only[lα]at h;subst h;exact .inr ⟨rfl,rfl,rfl⟩
 all_goals simp at h
theorem Xj (hcall:eV P G call)(hm:P.follows .mixedOrders=true){aO:Nat}:∀(k:Co) {c:Code} {st:St} {r:Ex×St} {a:Act} {φ:List cb} {w:World} {S:Nat→Prop},BS P G raw N c=some (er k)→ce call aO m k st=some r→ow G N a φ w S st→m≤st.hp.length→c.wp P (Post G N m φ w S st r) a w:=by
 intro k;induction k with
 |skip=>
  intro c st r a φ w S hc hev rel hmm;have:=nj hc;simp only[er,A4]at this;subst this;simp only[ce,lα]at hev;subst hev;exact wp_skip ⟨rfl,Later.refl rel hmm⟩
 |reg nal xs ps out=>
  intro c st r a φ w S hc hev rel hmm;have:=nj hc;simp only[er,A4]at this;have this:∃id ops draw,c= .region id ops draw∧GZ P G raw N ops.toList draw=some (.reg nal xs ps []):=by
   rcases this with h|⟨rfl,rfl,rfl⟩
   ·exact h
   ·simp only[ce]at hev;have:qW call 0 [⟨none,.pan,[],0,none⟩] none st=none:=rfl;rw[this]at hev;cases hev
  obtain⟨rid,ops,draw,rfl,hreg⟩:=this;simp only[ce]at hev;split at hev
  ·rename_i st1 hst1;simp only[lα]at hev;subst hev;have ij:∀a' w',Later G N m φ w S st st1 a' w'→Post G N m φ w S st (.norm,⟨eh out id st1.tm,st1.hp⟩) .normal a' w':=by
    rintro a' w' ⟨φ',S',r1,r2,r3,r4⟩
    refine⟨rfl,φ',S',⟨fun t=>?_,r1.gr,r1.hr,r1.size,r1.defers⟩,r2,r3,r4⟩
    simp only[xv];split
    ·exact r1.tmr t
    ·simp only[VR]
   unfold GZ at hreg;split at hreg
   ·simp at hreg
   ·rename_i ys n hx;cases draw with
    |false=>
     simp only[cond_false,lα,Co.reg.injEq]at hreg;obtain⟨rfl,rfl,rfl,_⟩:=hreg;exact WJ hcall hx hst1 rel hmm ij
    |true=>
     simp only[cond_true]at hreg;obtain⟨hed,hreg⟩:=fZ hreg;split at hreg
     ·rename_i ps' hps;simp only[lα,Co.reg.injEq]at hreg;obtain⟨rfl,rfl,rfl,_⟩:=hreg;exact H2 hcall hm hx hed hps hst1 rel hmm ij
     ·simp at hreg
  ·simp at hev
 |seq x y ihx ihy=>
  intro c st r a φ w S hc hev rel hmm;have:=nj hc;simp only[er,A4]at this;obtain⟨cx,cy,rfl,hx,hy⟩:=this;simp only[ce]at hev;refine wp_seq ?_;split at hev
  ·rename_i st1 hst1;refine wp_mono (ihx hx hst1 rel hmm) ?_;rintro e a1 w1 ⟨h1,φ1,S1,r1,r2,r3,r4⟩;cases e<;>simp only[y3,reduceCtorEq]at h1;exact wp_mono (ihy hy hev r1 r4) fun e a2 w2 h=>h.bind r2 r3
  ·rename_i hne;refine wp_mono (ihx hx hev rel hmm) ?_;rintro e a1 w1 ⟨h1,h2⟩;cases e with
   |normal=>
    exfalso;simp only[y3]at h1;obtain⟨ex,s1⟩:=r;simp only at h1;subst h1;exact hne s1 hev
   |exit i=>exact⟨h1,h2⟩
   |ret=>exact⟨h1,h2⟩
   |goto l=>exact h1.elim
   |panic ch=>exact h1.elim
   |outgrown=>exact h1.elim
 |cond z x y ihx ihy=>
  intro c st r a φ w S hc hev rel hmm;have:=nj hc;simp only[er,A4]at this;obtain⟨o,cx,cy,rfl,hz,hx,hy⟩:=this;have hv:=aU rel.tmr rel.gr hz;simp only[ce]at hev;split at hev
  ·rename_i b hb;rw[hb]at hv;simp only[VR,PR]at hv;cases b with
   |true=>exact wp_cond_true hv (ihx hx hev rel hmm)
   |false=>exact wp_cond_false hv (ihy hy hev rel hmm)
  ·simp at hev
 |block id x ihx=>
  intro c st r a φ w S hc hev rel hmm;have:=nj hc;simp only[er,A4]at this;obtain⟨cx,rfl,hx⟩:=this;simp only[ce]at hev;refine wp_block ?_;split at hev
  ·rename_i i st1 hst1;refine wp_mono (ihx hx hst1 rel hmm) ?_;rintro e a1 w1 ⟨h1,h2⟩;rw[beq_eq]at hev;cases e with
   |exit j=>
    simp only[y3,Ex.exit.injEq]at h1;subst h1;by_cases hij:i=id
    ·simp only[hij,decide_true,cond_true,lα]at hev;subst hev;simp only[Exit.inBlock,hij,if_true];exact⟨rfl,h2⟩
    ·simp only[hij,decide_false,cond_false,lα]at hev;subst hev;simp only[Exit.inBlock,if_neg hij];exact⟨rfl,h2⟩
   |normal=>simp[y3]at h1
   |ret=>simp[y3]at h1
   |goto l=>exact h1.elim
   |panic ch=>exact h1.elim
   |outgrown=>exact h1.elim
  ·rename_i hne;refine wp_mono (ihx hx hev rel hmm) ?_;rintro e a1 w1 ⟨h1,h2⟩;cases e with
   |exit j=>
    exfalso;simp only[y3]at h1;obtain⟨ex,s1⟩:=r;simp only at h1;subst h1;exact hne j s1 hev
   |normal=>exact⟨h1,h2⟩
   |ret=>exact⟨h1,h2⟩
   |goto l=>exact h1.elim
   |panic ch=>exact h1.elim
   |outgrown=>exact h1.elim
 |loop live x ihx=>
  intro c st r a φ w S hc hev rel hmm;have:=nj hc;simp only[er,A4]at this;obtain⟨cx,rfl,hx⟩:=this;simp only[ce]at hev;refine C8 (fun n a1 w1=>∃st1,sX m (ce call aO m x) live n st1=some r∧∃φ1 S1,ow G N a1 φ1 w1 S1 st1∧Fr (bf φ st.hp) S w (bf φ1 st1.hp) S1 w1∧(∀id,id<m→φ1[id]?=φ[id]?)∧m≤st1.hp.length) ?_ ?_ (n:=aO) ⟨st,hev,φ,S,rel,Fr.refl _ _ _,fun _ _=>rfl,hmm⟩
  ·rintro a1 w1 ⟨st1,h,_⟩
   simp[sX]at h
  ·rintro n a1 w1 ⟨st1,h,φ1,S1,r1,r2,r3,r4⟩
   simp only[sX]at h;split at h
   ·simp at h
   ·rename_i st2 hst2;obtain⟨φ2,S2,q1,q2,q3,q4⟩:=I1 hst2 r1 r4;split at h
    ·rename_i st3 hst3;refine wp_mono (ihx hx hst3 q1 q4) ?_;rintro e a3 w3 ⟨h1,φ3,S3,p1,p2,p3,p4⟩;cases e<;>simp only[y3,reduceCtorEq]at h1;exact⟨st3,h,φ3,S3,p1,(r2.trans q2).trans p2,fun id hid=>((p3 id hid).trans (q3 id hid)).trans (r3 id hid),p4⟩
    ·rename_i hne;refine wp_mono (ihx hx h q1 q4) ?_;rintro e a3 w3 ⟨h1,h2⟩;have hb:=h2.bind (r2.trans q2) (fun id hid=>(q3 id hid).trans (r3 id hid));cases e with
     |normal=>
      exfalso;simp only[y3]at h1;obtain⟨ex,s1⟩:=r;simp only at h1;subst h1;exact hne s1 h
     |exit i=>exact⟨h1,hb⟩
     |ret=>exact⟨h1,hb⟩
     |goto l=>exact h1.elim
     |panic ch=>exact h1.elim
     |outgrown=>exact h1.elim
 |exit id=>
  intro c st r a φ w S hc hev rel hmm;have:=nj hc;simp only[er,A4]at this;subst this;simp only[ce,lα]at hev;subst hev;exact wp_exit ⟨rfl,Later.refl rel hmm⟩
 |ret=>
  intro c st r a φ w S hc hev rel hmm;have:=nj hc;simp only[er,A4]at this;subst this;simp only[ce,lα]at hev;subst hev;exact wp_ret ⟨rfl,Later.refl rel hmm⟩
 |gh g x ihx=>
  intro c st r a φ w S hc hev rel hmm;simp only[er]at hc;simp only[ce]at hev;split at hev
  ·rename_i st1 hst1;obtain⟨φ1,S1,r1,r2,r3,r4⟩:=I1 hst1 rel hmm;exact wp_mono (ihx hc hev r1 r4) fun e a2 w2 h=>h.bind r2 r3
  ·simp at hev
end
end Go.Ab
end
section
namespace Go.Ab
open Go
variable [Letters]
section
variable {P:Program} {G:bF} {raw:Nat→Bool} {N m:Nat} {call:aG} {a:Act} {φ:List cb} {w:World} {S:Nat→Prop} {st st':St} {hp:List Ob}
theorem qZ:∀(ds:List D) (n t:Nat),get (dZ ds n) t=if n≤t then ds.getD (t - n) .junk else .junk
 |[],n,t=>by simp[dZ,get]
 |d::r,n,t=>by
  simp only[dZ,get];rw[beq_eq,qZ r (n+1) t];by_cases hn:n=t
  ·subst hn;simp
  ·simp only[hn,decide_false,cond_false];by_cases hle:n≤t
   ·rw[if_pos hle,if_pos (by omega),show t - n=(t - (n+1))+1 by omega,List.getD_cons_succ]
   ·rw[if_neg hle,if_neg (by omega)]
theorem KZ {ds:List D}{vs:List Value}(h:Pw (VR φ w S) ds vs)(k:Nat):Ml φ w S (dZ ds 0) {tmps:=vs.toArray++Array.replicate k undef,defers:=[]}:=by
 intro t;rw[qZ];simp only[Nat.zero_le,if_true,Nat.sub_zero];rw[lρ];cases hd:ds[t]? with
 |none=>simp only[Option.getD_none,VR]
 |some d=>
  obtain⟨v,hv,hr⟩:=h.get hd;have hlt:t<vs.length:=by
   rcases lν t vs.length with h|h
   ·exact h
   ·simp[lε h]at hv
  rw[Array.getD_eq_getD_getElem?,Array.getElem?_append_left (by simpa using hlt)];simp only[List.getElem?_toArray,hv,Option.getD_some];exact hr
theorem WM (rel:ow G N a φ w S st){r0:ResultVar}{r:Rv}{d:D}(hr:Yh P r0=some r)(h:Eo st r=some d):
  ∃v,(match r0 with| .tmp t=>(pure (a.tmps.getD t undef):Sem Value)| .cell x t=>do loadVar t (←asAddr (a.tmps.getD x undef))).run P w= .ok v w∧VR φ w S d v:=by
 cases r0 with
 |tmp t=>
  simp only[Yh,lα]at hr;subst hr;simp only[Eo,lα]at h;subst h;exact⟨_,rfl,rel.tmr t⟩
 |cell x t=>
  simp only[Yh]at hr;split at hr
  ·rename_i y hy;simp only[lα]at hr;subst hr;have ht:=cW hy;simp only[Eo]at h;split at h
   ·rename_i id off hb;split at h
    ·rename_i cs hcs;split at h
     ·rename_i ds hds;have hob:=ef hcs (by simp);have hv:=rel.tmr x;rw[hb]at hv;simp only[VR]at hv;obtain⟨b,hbb,hv⟩:=hv;obtain⟨vs,t',fz,h1,h2,h3,h4,_⟩:=rel.hr.obj id _ _ hbb hob;obtain⟨hl,rfl⟩:=C1 hds;obtain⟨v,e1,e2⟩:=pW ht (b:=b) (o:=off) ((h3.drop off).take y.size) (vg h4) (by have:=h3.1;simp only[mγ,lτ];omega)
       (fun j c hj=>by
        have:=kH hj;simp only[World.cell?,h1];simpa using this) h
      refine⟨v,?_,e2⟩;simp only[hv,asAddr,Sem.run_bind,Sem.run_pure,Result.andThen_ok,e1]
     ·simp at h
    ·simp at h
   ·simp at h
  ·simp at hr
theorem Jz (rel:ow G N a φ w S st):∀{l:List ResultVar} {rs:List Rv} {ds:List D},Kz P l=some rs→jl st rs=some ds→
  ∃vs:List Value,(l.mapM fun(r:ResultVar)=>(match r with| .tmp t=>(pure (a.tmps.getD t undef):Sem Value)| .cell x t=>do loadVar t (←asAddr (a.tmps.getD x undef)))).run P w= .ok vs w∧Pw (VR φ w S) ds vs
 |[],rs,ds,hr,h=>by
  simp only[Kz,lα]at hr;subst hr;simp only[jl,lα]at h;subst h;exact⟨[],rfl,Pw.nil⟩
 |r::l,rs,ds,hr,h=>by
  simp only[Kz]at hr;split at hr
  ·rename_i x xs hx hxs;simp only[lα]at hr;subst hr;simp only[jl]at h;split at h
   ·rename_i d hd;split at h
    ·rename_i es hes;simp only[lα]at h;subst h;obtain⟨v,h1,h2⟩:=WM (P:=P) rel hx hd;obtain⟨vs,h3,h4⟩:=Jz rel hxs hes;refine⟨v::vs,?_,Pw.cons h2 h4⟩;rw[List.mapM_cons];simp only[Sem.run_bind,h1,h3,Result.andThen_ok,Sem.run_pure]
    ·simp at h
   ·simp at h
  ·simp at hr
theorem FE {fn:Func}{tmps:Array Value}{us:List Value}(h:(fn.results.toList.mapM fun(r:ResultVar)=>(match r with| .tmp t=>(pure (tmps.getD t undef):Sem Value)| .cell x t=>do loadVar t (←asAddr (tmps.getD x undef)))).run P w= .ok us w):
  (results fn tmps).run P w= .ok (if hh:us.toArray.size=1 then us.toArray[0]else .tuple us.toArray) w:=by
 have e:results fn tmps=(do
   let vs ←fn.results.mapM fun(r:ResultVar)=>(match r with| .tmp t=>(pure (tmps.getD t undef):Sem Value)| .cell x t=>do loadVar t (←asAddr (tmps.getD x undef)))
   pure (if h:vs.size=1 then vs[0]else .tuple vs)):=by
  unfold results;congr 1
 rw[e,Array.mapM_eq_mapM_toList];simp only[Sem.run_bind,Sem.run_map,h,Result.andThen_ok,Sem.run_pure]
theorem Wz {ds:List D}{vs:List Value}(h:Pw (VR φ w S) ds vs):VR φ w S (one ds) (if hh:vs.toArray.size=1 then vs.toArray[0]else .tuple vs.toArray):=by
 have hlen:=h.1;unfold one;split
 ·rename_i d;obtain⟨v,r,rfl,h1,h2⟩:=h.cons_inv;obtain rfl:=h2.nil_inv;simpa using h1
 ·rename_i hne;have:vs.toArray.size≠1:=by
   intro hs;simp at hs;match ds,hlen with
   |[],hl=>simp at hl;omega
   |[d],_=>exact hne d rfl
   |_::_::_,hl=>simp at hl;omega
  rw[dif_neg this];simp only[VR];exact⟨_,rfl,VRs_iff.2 (by simpa using h)⟩
theorem Hh:∀{ds:List D} {vs:List Value} {hp:List Ob} {S:Nat→Prop},HR φ w S hp→Pw (VR φ w S) ds vs→∃S',HR φ w S' (oy hp ds).2∧Pw (VR φ w S') (oy hp ds).1 vs∧Fr (bf φ hp) S w (bf φ (oy hp ds).2) S' w∧(oy hp ds).2.length=hp.length
 |[],vs,hp,S,hr,h=>⟨S,hr,by obtain rfl:=h.nil_inv;exact Pw.nil,Fr.refl _ _ _,rfl⟩
 |d::r,vs,hp,S,hr,h=>by
  obtain⟨v,us,rfl,h1,h2⟩:=h.cons_inv;simp only[oy];split
  ·rename_i x hx;have hz:((dids d).map fun i=>(i,aP hp i))=(dids d).zip ((dids d).map (aP hp)):=(rW (aP hp) _).symm;rw[hz]at hx ⊢
   obtain⟨k1,k2⟩:=hr.freeze (dids d);have hv:=lW hr (S':=Dq φ S hp (dids d)) (fun _ h=> .inl h) mH _ hx h1;obtain⟨S',q1,q2,q3,q4⟩:=Hh k1 (h2.mono fun _ _ hh=>gS (Ext.refl φ) (fun _ _=>rfl) (fun _ h=> .inl h) _ hh);refine⟨S',q1,Pw.cons ?_ q2,k2.trans q3,by rw[q4,bt]⟩
   simp only[VR];exact bd (fun _ _=>rfl) q3.sub _ hv
  ·obtain⟨S',q1,q2,q3,q4⟩:=Hh hr h2;exact⟨S',q1,Pw.cons (gS (Ext.refl φ) (fun _ _=>rfl) q3.sub _ (Jl h1)) q2,q3,q4⟩
theorem V9 (hr:HR φ w S hp){ds:List D}{vs:List Value}(h:Pw (VR φ w S) ds vs)(hm:m≤hp.length)(fz:Bool):
  ∃φ' S',VR φ' w S' (ij m fz ds hp).1 (if hh:vs.toArray.size=1 then vs.toArray[0]else .tuple vs.toArray)∧HR φ' w S' (ij m fz ds hp).2∧Fr (bf φ hp) S w (bf φ' (ij m fz ds hp).2) S' w∧∀id,id<m→φ'[id]?=φ[id]?:=by
 have key:∀(ds:List D) (hp:List Ob) (S:Nat→Prop),HR φ w S hp→Pw (VR φ w S) ds vs→m≤hp.length→∀ids,ids=close hp aX (dids.didsL ds++(hp.take m).flatMap hO) (List.range m)→
   ∃φ',VR φ' w S (mapD (idx ids) (one ds)) (if hh:vs.toArray.size=1 then vs.toArray[0]else .tuple vs.toArray)∧HR φ' w S (bB ids hp)∧Fr (bf φ hp) S w (bf φ' (bB ids hp)) S w∧∀id,id<m→φ'[id]?=φ[id]?:=by
  rintro ds hp S hr h hm ids rfl
  have hnd:=(ec (hp:=hp) aX (dids.didsL ds++(hp.take m).flatMap hO) (List.range m) List.nodup_range).1;exact⟨_,wO (oh _ φ) _ (Wz h),hr.shrink hnd,(Fr.refl _ _ _).less fun b hb=>Ja hr _ hb,fun id hid=>Ap (by rw[hr.len];exact hm) hid⟩
 unfold ij;cases fz with
 |false=>
  simp only[cond_false];obtain⟨φ',h1,h2,h3,h4⟩:=key ds hp S hr h hm _ rfl;exact⟨φ',S,h1,h2,h3,h4⟩
 |true=>
  simp only[cond_true];obtain⟨S',q1,q2,q3,q4⟩:=Hh hr h;obtain⟨φ',h1,h2,h3,h4⟩:=key _ _ S' q1 q2 (by rw[q4];exact hm) _ rfl;exact⟨φ',S',h1,h2,q3.trans h3,h4⟩
theorem Wa [Mv]{m:Nat}(hmm:m≤hp.length)(hcall:eV P G call)(hmix:P.follows .mixedOrders=true){f aO:Nat}{fn:Func}{x:Fx}(hf:P.funcs[f]?=some fn)(hx:K4 P G raw fn x){ds:List D}{r:D}{out:List Ob}(hev:nN m call aO x ds hp=some (r,out))
  (hr:HR φ w S hp) (hg:GR G w S) {vs:List Value} (hv:Pw (VR φ w S) ds vs):Calls P f vs.toArray w (RetOk φ hp w S r out m):=by
 obtain⟨hb,hres⟩:=hx;cases hbody:fn.body with
 |none=>rw[hbody]at hb;simp at hb
 |some c=>
  rw[hbody]at hb;simp only at hb;have rel:ow G fn.ntmps {tmps:=vs.toArray++Array.replicate (fn.ntmps - vs.toArray.size) undef,defers:=[]} φ w S ⟨dZ ds 0,hp⟩:=⟨KZ hv _,hg,hr,by simp;omega,rfl⟩
  have ij:∀{ex:Ex} {st1:St} {es:List D},ce call aO m x.body ⟨dZ ds 0,hp⟩=some (ex,st1)→(ex= .norm∨ex= .ret)→jl st1 x.res=some es→(r,out)=ij m x.fz es st1.hp→Calls P f vs.toArray w (RetOk φ hp w S r out m):=by
   intro ex st1 es h1 hex h2 h3;refine calls_of_wp hf hbody (wp_mono (Xj (m:=m) hcall hmix x.body hb h1 rel hmm) ?_);rintro e a1 w1 ⟨he,φ1,S1,r1,r2,r3,r4⟩;have fin2:a1.defers=[]∧∃v,(results fn a1.tmps).run P w1= .ok v w1∧RetOk φ hp w S r out m (.returned v) w1:=by
    refine⟨r1.defers,?_⟩;obtain⟨us,g1,g2⟩:=Jz (P:=P) r1 hres h2;obtain⟨φ2,S2,q1,q2,q3,q4⟩:=V9 r1.hr g2 r4 x.fz;rw[←h3]at q1 q2 q3;refine⟨_,?_,φ2,S2,q1,q2,r2.trans q3,fun id hid=>(q4 id hid).trans (r3 id hid)⟩
    exact FE g1
   cases e with
   |normal=>exact fin2
   |ret=>exact fin2
   |exit i=>simp only[y3]at he;rcases hex with rfl|rfl<;>simp at he
   |goto l=>exact he.elim
   |panic ch=>exact he.elim
   |outgrown=>exact he.elim
  unfold nN at hev;split at hev
  ·rename_i st1 h1;split at hev
   ·rename_i es h2;simp only[lα]at hev;exact ij h1 (.inl rfl) h2 hev.symm
   ·simp at hev
  ·rename_i st1 h1;split at hev
   ·rename_i es h2;simp only[lα]at hev;exact ij h1 (.inr rfl) h2 hev.symm
   ·simp at hev
  ·simp at hev
def ib (P:Program)(G:bF)(f:Nat)(g:List Da→Option (D×List Ob)):Prop:=
 ∀xs r out,g xs=some (r,out)→dq P f∧∀w S vs,(∀b,S b→b<w.heap.size)→GR G w S→Pw (PR w S) xs vs→Calls P f vs.toArray w (RetOk [] [] w S r out 0)
def W6 [Mv](P:Program)(G:bF)(f:Nat)(g:List D→List Ob→Option (D×List Ob)):Prop:=
 ∀ds hp r out,g ds hp=some (r,out)→dq P f∧∀φ w S vs,HR φ w S hp→GR G w S→Pw (VR φ w S) ds vs→Calls P f vs.toArray w (RetOk φ hp w S r out (em f ds hp.length))
structure tN [Mv](P:Program)(G:bF)(tab:Nat→Option Fn):Prop where
 code : ∀ f x, tab f = some (.code x) → ∃ fn raw, P.funcs[f]? = some fn ∧ K4 P G raw fn x ∧ (fn.name == "runtime.NumGoroutine") = false
 prim:∀f g,tab f=some (.prim g)→ib P G f g
 both : ∀ f g x, tab f = some (.both g x) → ib P G f g ∧ ∃ fn raw, P.funcs[f]? = some fn ∧ K4 P G raw fn x ∧ (fn.name == "runtime.NumGoroutine") = false
 any:∀f g,tab f=some (.any g)→W6 P G f g
theorem sK [Mv] (hmix : P.follows .mixedOrders = true) {call : aG} (hc : eV P G call) {f aO : Nat} {fn : Func} {raw : Nat → Bool} {x : Fx} (h1 : P.funcs[f]? = some fn) (h2 : K4 P G raw fn x) (h3 : (fn.name == "runtime.NumGoroutine") = false) {ds : List D} {hp : List Ob} {r : D} {out : List Ob} (h : nN (em f ds hp.length) call aO x ds hp = some (r, out)) :
  dq P f∧∀φ w S vs,HR φ w S hp→GR G w S→Pw (VR φ w S) ds vs→Calls P f vs.toArray w (RetOk φ hp w S r out (em f ds hp.length)):=by
 refine⟨⟨fn,h1,?_,h3⟩,fun φ w S vs hr hg hv=>Wa (rd _ _ _) hc hmix h1 h2 h hr hg hv⟩
 cases hb:fn.body with
 |none=>obtain⟨h4,_⟩:=h2;rw[hb]at h4;simp at h4
 |some c=>rfl
theorem AK {f:Nat}{g:List Da→Option (D×List Ob)}(hg:ib P G f g){ds:List D}{xs:List Da}(hxs:gp ds=some xs){r:D}{out:List Ob}(h:g xs=some (r,out)):
  dq P f∧∀φ w S vs,HR φ w S []→GR G w S→Pw (VR φ w S) ds vs→Calls P f vs.toArray w (RetOk φ [] w S r out 0):=by
 obtain⟨h1,h2⟩:=hg xs r out h;refine⟨h1,fun φ w S vs hr hgr hv=>?_⟩
 have hφ:φ=[]:=lι (by rw[hr.len];rfl);subst hφ;exact h2 w S vs hr.low hgr (qG hxs hv)
theorem qV [Mv](hmix:P.follows .mixedOrders=true){tab:Nat→Option Fn}(ht:tN P G tab):∀n,eV P G (evFn tab n)
 |0=>by intro f ds hp r out h;simp[evFn]at h
 |n+1=>by
  intro f ds hp r out h;simp only[evFn]at h;split at h
  ·rename_i x hx;obtain⟨fn,raw,h1,h2,h3⟩:=ht.code f x hx;exact sK hmix (qV hmix ht n) h1 h2 h3 h
  ·rename_i g hg;split at h
   ·rename_i xs hxs;split at h
    ·rw[List.length_nil,xB];exact AK (ht.prim f g hg) hxs h
    ·simp at h
   ·simp at h
  ·rename_i g x hx;obtain⟨hg,fn,raw,h1,h2,h3⟩:=ht.both f g x hx;split at h
   ·rename_i xs hxs;split at h
    ·rw[List.length_nil,xB];exact AK hg hxs h
    ·exact sK hmix (qV hmix ht n) h1 h2 h3 h
   ·exact sK hmix (qV hmix ht n) h1 h2 h3 h
  ·rename_i g hg;exact ht.any f g hg ds hp r out h
  ·simp at h
end
end Go.Ab
end
