import Derived.Test.YtbgddkffhndjcaaGreatDoorAm1
import Derived.Laws.Externs
import Derived.Orders
set_option linter.all false
section
namespace Go.Ab
open Go
variable [Letters]
def Ren (σ:Nat→Option Nat)(φ φ':List bQ):Prop:=∀i j,σ i=some j→∀l,φ[i]?=some l→l≠ .none→φ'[j]?=some l
mutual
theorem uT {σ:Nat→Option Nat}{φ φ':List bQ}{w:World}{S:Nat→Prop}(hσ:Ren σ φ φ'):∀(d:D) {v:Value},VR φ w S d v→VR φ' w S (mapD σ d) v
 | .p x,v,h=>by simpa only[mapD,VR]using h
 | .agg ds,v,h=>by
  simp only[mapD,VR]at h ⊢
  obtain⟨vs,rfl,h1,h2⟩:=h;exact⟨vs,rfl,pj hσ ds h1,h2⟩
 | .tup ds,v,h=>by
  simp only[mapD,VR]at h ⊢
  obtain⟨vs,rfl,h1⟩:=h;exact⟨vs,rfl,pj hσ ds h1⟩
 | .box id off,v,h=>by
  simp only[mapD];split
  ·rename_i j hj;simp only[VR]at h ⊢
   obtain⟨b,h1,rfl⟩:=h;exact⟨b,hσ _ _ hj _ h1 (by simp),rfl⟩
  ·simp only[VR]
 | .el id i off,v,h=>by
  simp only[mapD];split
  ·rename_i j hj;simp only[VR]at h ⊢
   obtain⟨b,o,cap,z,n,h1,h2,rfl⟩:=h;exact⟨b,o,cap,z,n,hσ _ _ hj _ h1 (by simp),h2,rfl⟩
  ·simp only[VR]
 | .ip x off,v,h=>by simpa only[mapD,VR]using h
 | .arr id lo len z,v,h=>by
  simp only[mapD];split
  ·rename_i j hj;simp only[VR]at h ⊢
   obtain⟨b,o,cap,n,a,h1,h2⟩:=h;exact⟨b,o,cap,n,a,hσ _ _ hj _ h1 (by simp),h2⟩
  ·simp only[VR]
 | .sl g z es,v,h=>by simpa only[mapD,VR]using h
 | .map id,v,h=>by
  simp only[mapD];split
  ·rename_i j hj;simp only[VR]at h ⊢
   obtain⟨r,h1,rfl⟩:=h;exact⟨r,hσ _ _ hj _ h1 (by simp),rfl⟩
  ·simp only[VR]
 | .fn f caps,v,h=>by
  simp only[mapD,VR]at h ⊢
  obtain⟨fs,cs,rfl,hk,h1⟩:=h;exact⟨fs,cs,rfl,hk,pj hσ caps h1⟩
 | .iface t d,v,h=>by
  simp only[mapD,VR]at h ⊢
  obtain⟨u,rfl,h1⟩:=h;exact⟨u,rfl,uT hσ d h1⟩
 | .junk,v,h=>by simp only[mapD,VR]
theorem pj {σ:Nat→Option Nat}{φ φ':List bQ}{w:World}{S:Nat→Prop}(hσ:Ren σ φ φ'):∀(ds:List D) {vs:List Value},tI φ w S ds vs→tI φ' w S (mapD.mapDL σ ds) vs
 |[],vs,h=>by simpa only[mapD.mapDL,tI]using h
 |d::r,vs,h=>by
  simp only[mapD.mapDL,tI]at h ⊢
  obtain⟨u,us,rfl,h1,h2⟩:=h;exact⟨u,us,rfl,uT hσ d h1,pj hσ r h2⟩
end
theorem Ec {σ:Nat→Option Nat}{φ φ':List bQ}{w:World}{S:Nat→Prop}(hσ:Ren σ φ φ'){ds:List D}{vs:List Value}(h:Pw (VR φ w S) ds vs):Pw (VR φ' w S) (mapD.mapDL σ ds) vs:=
 VRs_iff.1 (pj hσ ds (VRs_iff.2 h))
theorem RO (σ:Nat→Option Nat)(cs:List D)(h:b3 (mapD.mapDL σ cs)=true):b3 cs=true:=by
 have hl:∀cs:List D,(mapD.mapDL σ cs).length=cs.length:=fun cs=>by
  induction cs with
  |nil=>rfl
  |cons d r ih=>simp only[mapD.mapDL,List.length_cons,ih]
 unfold b3 at h ⊢
 rw[hl]at h;rw[lβ]at h ⊢
 refine⟨h.1,?_⟩;cases cs with
 |nil=>exact h.2
 |cons d r=>
  have h2:=h.2;simp only[mapD.mapDL]at h2;cases d with
  |p x=>cases x<;>first|rfl|exact absurd h2 (by simp[mapD,pH])
  |box i o=>rfl
  |agg ds=>simp only[mapD,pH]at h2;cases h2
  |tup ds=>simp only[mapD,pH]at h2;cases h2
  |el i j o=>simp only[mapD]at h2;split at h2<;>cases h2
  |ip x o=>simp only[mapD,pH]at h2;cases h2
  |arr i a b c=>simp only[mapD]at h2;split at h2<;>cases h2
  |sl g z es=>simp only[mapD,pH]at h2;cases h2
  |map i=>simp only[mapD]at h2;split at h2<;>cases h2
  |fn f ds=>simp only[mapD,pH]at h2;cases h2
  |iface t d=>simp only[mapD,pH]at h2;cases h2
  |junk=>simp only[mapD,pH]at h2;cases h2
theorem JW {σ:Nat→Option Nat}{φ φ':List bQ}{w:World}{S:Nat→Prop}(hσ:Ren σ φ φ'){l:bQ}{o:Ob}(h:OR φ w S l o):OR φ' w S l (bB σ o):=by
 cases o with
 |box cs=>
  cases l with
  |box b=>
   simp only[OR]at h;simp only[bB,OR];obtain⟨vs,t,fz,h1,h2,h3,h4,h5⟩:=h;exact⟨vs,t,fz,h1,h2,Ec hσ h3,h4,fun hh=>h5 (RO σ cs hh)⟩
  |_=>simp only[OR]at h
 |arr es=>cases l<;>simpa only[OR,bB]using h
 |fz es=>cases l<;>simpa only[OR,bB]using h
 |byt es=>cases l<;>simpa only[OR,bB]using h
 |map ks vs=>cases l<;>simpa only[OR,bB]using h
 |fzm ks vs=>cases l<;>simpa only[OR,bB]using h
 |mapd ks vs=>
  cases l with
  |map r=>
   simp only[OR]at h;simp only[bB,OR];obtain⟨es,c,h1,h2,h3⟩:=h;exact⟨es,c,h1,h2,Ec hσ h3⟩
  |_=>simp only[OR]at h
 |dead=>cases l<;>simp only[OR,bB]
 |unborn=>cases l<;>simpa only[OR,bB]using h
theorem qh (σ:Nat→Option Nat)(l:bQ)(o:Ob):bq l (bB σ o)=bq l o:=by
 cases o<;>cases l<;>rfl
theorem MH {id:Nat}:∀{ids:List Nat} {n j:Nat},idx.go id ids n=some j→n≤j∧ids[j - n]?=some id
 |[],n,j,h=>by simp[idx.go]at h
 |x::r,n,j,h=>by
  simp only[idx.go]at h;rw[beq_eq]at h;by_cases hx:x=id
  ·simp[hx]at h;subst h;simp[hx]
  ·simp[hx]at h;obtain⟨h1,h2⟩:=MH h;refine⟨by omega,?_⟩
   rw[show j - n=(j - (n+1))+1 by omega,List.getElem?_cons_succ];exact h2
theorem CJ {ids:List Nat}{id j:Nat}(h:idx ids id=some j):ids[j]?=some id:=by
 have:=(MH (n:=0) h).2;simpa using this
theorem vH {id:Nat}:∀{ids:List Nat} {n:Nat},id∈ids→∃j,idx.go id ids n=some j
 |[],n,h=>by simp at h
 |x::r,n,h=>by
  simp only[idx.go];rw[beq_eq];by_cases hx:x=id
  ·simp[hx]
  ·simp only[hx,decide_false,cond_false];exact vH ((lω.1 h).resolve_left fun e=>hx e.symm)
theorem yI {ids:List Nat}(h:ids.Nodup){i j x:Nat}(hi:ids[i]?=some x)(hj:ids[j]?=some x):i=j:=by
 have hlt:i<ids.length:=by
  rcases lν i ids.length with h1|h1
  ·exact h1
  ·simp[lδ h1]at hi
 exact(List.getElem?_inj hlt h).1 (hi.trans hj.symm)
theorem E3 {ids:List Nat}(h:ids.Nodup){id k:Nat}(hk:ids[k]?=some id):idx ids id=some k:=by
 obtain⟨j,hj⟩:=vH (n:=0) (mθ hk);have hj':idx ids id=some j:=hj;rw[hj',yI h (CJ hj') hk]
def hH (ids:List Nat)(φ:List bQ):List bQ:=ids.map fun i=>φ.getD i .none
theorem nf (ids:List Nat)(φ:List bQ):Ren (idx ids) φ (hH ids φ):=by
 intro i j hj l hl _;have:=CJ hj;simp[hH,this,hl]
section
variable {φ:List bQ} {w:World} {S:Nat→Prop} {hp:List Ob}
theorem tW {ids:List Nat}(hr:HR φ w S hp){k:Nat}{l:bQ}{o:Ob}(h1:(hH ids φ)[k]?=some l)(h2:(bt ids hp)[k]?=some o):∃i,ids[k]?=some i∧((φ[i]?=some l∧∃o0,hp[i]?=some o0∧o=bB (idx ids) o0)∨(φ[i]?=none∧l= .none∧o= .dead)):=by
 simp only[hH,bt,lτ,mψ]at h1 h2;obtain⟨i,hi,rfl⟩:=h1;obtain⟨i',hi',rfl⟩:=h2;rw[hi]at hi';simp at hi';subst hi';refine⟨i,hi,?_⟩;rcases lν i hp.length with hlt|hge
 ·have h3:i<φ.length:=by rw[hr.len];exact hlt
  refine .inl ⟨by simp[lε h3],hp[i],lε hlt,?_⟩
  rw[t6 (lε hlt)]
 ·have h3:φ.length≤i:=by rw[hr.len];exact hge
  refine .inr ⟨lδ h3,by simp[lδ h3],?_⟩
  simp[aN,lδ hge,bB]
theorem oK {ids:List Nat}(hr:HR φ w S hp){b:Nat}(h:bc (hH ids φ) (bt ids hp) b):oe φ hp (· ∈ids) b:=by
 obtain⟨k,l,o,h1,h2,h3⟩:=h;obtain⟨i,hi,(⟨g1,o0,g2,rfl⟩|⟨_,rfl,rfl⟩)⟩:=tW hr h1 h2
 ·rw[qh]at h3;exact⟨i,l,o0,mθ hi,g1,g2,h3⟩
 ·simp[bq]at h3
theorem HR.shrink (hr:HR φ w S hp){ids:List Nat}(hnd:ids.Nodup):HR (hH ids φ) w S (bt ids hp) where
 len:=by simp[hH,bt]
 obj k l o h1 h2:=by
  obtain⟨i,hi,(⟨g1,o0,g2,rfl⟩|⟨_,rfl,rfl⟩)⟩:=tW hr h1 h2
  ·exact JW (nf ids φ) (hr.obj i l o0 g1 g2)
  ·simp only[OR]
 own b hb:=by
  obtain⟨i,l,o,_,h1,h2,h3⟩:=oK hr hb;exact hr.own b ⟨i,l,o,h1,h2,h3⟩
 one k k' l l' o o' b h1 h2 h1' h2' h3 h3':=by
  obtain⟨i,hi,(⟨g1,o0,g2,rfl⟩|⟨_,rfl,rfl⟩)⟩:=tW hr h1 h2
  ·obtain⟨i',hi',(⟨g1',o0',g2',rfl⟩|⟨_,rfl,rfl⟩)⟩:=tW hr h1' h2'
   ·rw[qh]at h3 h3';have:=hr.one i i' l l' o0 o0' b g1 g2 g1' g2' h3 h3';subst this;exact yI hnd hi hi'
   ·simp[bq]at h3'
  ·simp[bq]at h3
 low:=hr.low
theorem GT (hr:HR φ w S hp)(ids:List Nat){b:Nat}(h:bc (hH ids φ) (bt ids hp) b):bc φ hp b:=by
 obtain⟨i,l,o,_,h1,h2,h3⟩:=oK hr h;exact⟨i,l,o,h1,h2,h3⟩
end
theorem dN {hp:List Ob}:∀(n:Nat) (ws acc:List Nat),acc.Nodup→(close hp n ws acc).Nodup∧acc <+: close hp n ws acc
 |0,ws,acc,h=>by simp only[close];exact⟨h,List.prefix_refl _⟩
 |n+1,[],acc,h=>by simp only[close];exact⟨h,List.prefix_refl _⟩
 |n+1,id::ws,acc,h=>by
  simp only[close];split
  ·exact dN n ws acc h
  ·rename_i hc;have hni:id∉acc:=by simpa using hc
   obtain⟨h1,h2⟩:=dN (hp:=hp) n (gR (hp.getD id .dead)++ws) (acc++[id]) (by
    rw[List.nodup_append];refine⟨h,by simp,?_⟩
    intro a ha b hb e;simp at hb;exact hni (hb▸e▸ha))
   exact⟨h1,(List.prefix_append _ _).trans h2⟩
theorem B9 {hp:List Ob}{n m:Nat}{ws:List Nat}{k:Nat}(hk:k<m):(close hp n ws (List.range m))[k]?=some k:=by
 obtain⟨r,hr⟩:=(dN (hp:=hp) n ws (List.range m) List.nodup_range).2;rw[←hr,lη (by simpa using hk)];simp[hk]
theorem yy {hp:List Ob}{φ:List bQ}{n m:Nat}{ws:List Nat}(hm:m≤φ.length){id:Nat}(hid:id<m):(hH (close hp n ws (List.range m)) φ)[id]?=φ[id]?:=by
 simp only[hH,lτ,B9 hid,Option.map_some];rw[lρ,lε (by omega:id<φ.length)];rfl
theorem vD {out:List Nat}{f:D→D}{tm:Tm}{t:Nat}:get (dR out f tm) t=if t∈out then f (get tm t)else .junk:=by
 induction out with
 |nil=>simp[dR,get]
 |cons s r ih=>
  simp only[dR,get];rw[beq_eq];by_cases hs:s=t
  ·subst hs;simp
  ·have:t≠s:=fun e=>hs e.symm
   simp[hs,this,ih]
end Go.Ab
end
section
namespace Go.Ab
open Go
variable [Letters]
def RetOk (φ:List bQ)(hp:List Ob)(w:World)(S:Nat→Prop)(r:D)(out:List Ob)(m:Nat):Ending→World→Prop
 | .returned v,w'=>∃φ' S',VR φ' w' S' r v∧HR φ' w' S' out∧Fr (bc φ hp) S w (bc φ' out) S' w'∧∀id,id<m→φ'[id]?=φ[id]?
 |_,_=>False
def cS (P : Program) (f : Nat) : Prop := ∃ fn, P.funcs[f]? = some fn ∧ fn.body.isNone = false ∧ (fn.name == "runtime.NumGoroutine") = false
def eF [Mv](P:Program)(G:bx)(call:aC):Prop:=
 ∀f ds hp r out,call f ds hp=some (r,out)→cS P f∧∀φ w S vs,HR φ w S hp→GR G w S→Pw (VR φ w S) ds vs→Calls P f vs.toArray w (RetOk φ hp w S r out (dU f ds hp.length))
theorem pV [Mv](f:Nat)(ds:List D)(n:Nat):dU f ds n≤n:=by
 unfold dU;cases Mv.mv f
 ·exact Nat.le_refl _
 ·exact Nat.min_le_right _ _
theorem vL [Mv](f:Nat)(ds:List D):dU f ds 0=0:=Nat.le_zero.1 (pV f ds 0)
theorem E6 [Mv]{f:Nat}(h:Mv.mv f=false)(ds:List D)(n:Nat):dU f ds n=n:=by
 unfold dU;rw[h];rfl
theorem RetOk.le {φ:List bQ}{hp:List Ob}{w:World}{S:Nat→Prop}{r:D}{out:List Ob}{m m':Nat}(hm:m'≤m){e:Ending}{w':World}(h:RetOk φ hp w S r out m e w'):RetOk φ hp w S r out m' e w':=by
 cases e with
 |returned v=>
  obtain⟨φ',S',h1,h2,h3,h4⟩:=h;exact⟨φ',S',h1,h2,h3,fun id hid=>h4 id (by omega)⟩
 |panicked c=>exact h
 |outgrown=>exact h
section
variable {P:Program} {G:bx} {φ:List bQ} {w:World} {S:Nat→Prop} {hp:List Ob} {d:D} {ups:List (Nat×Ob)} {new:List Ob}
theorem FQ (ids:List Nat)(hp:List Ob):(ids.map (aN hp)).map (bB (idx ids))=bt ids hp:=by
 simp[bt,List.map_map]
def JA (m:Nat)(ids:List Nat)(os:List Ob):List (Nat×Ob):=(ids.take m).zip os++(ids.drop m).map fun i=>(i,.dead)
def Tj (m:Nat)(ids:List Nat)(os:List Ob)(i:Nat):Ob:=bif Nat.blt ((idx ids i).getD 0) m then os.getD ((idx ids i).getD 0) .dead else .dead
theorem Hv {m:Nat}{ids:List Nat}(hnd:ids.Nodup){os:List Ob}(hm:m≤ids.length)(hle:m≤os.length):JA m ids os=ids.map fun i=>(i,Tj m ids os i):=by
 unfold JA;have hz:∀k:Nat,((ids.take m).zip os)[k]?=((ids.take m)[k]?).bind fun i=>(os[k]?).map fun o=>(i,o):=by
  intro k;simp only[List.zip];rw[List.getElem?_zipWith];cases(ids.take m)[k]?<;>cases os[k]?<;>rfl
 have hzl:((ids.take m).zip os).length=m:=by simp[List.length_zip];omega
 apply List.ext_getElem?;intro k;rw[lτ];by_cases hk:k<m
 ·have hki:k<ids.length:=by omega
  have hko:k<os.length:=by omega
  rw[lη (by omega),hz,List.getElem?_take,if_pos hk,lε hki];have hat:ids[k]?=some ids[k]:=lε hki;have hbl:Nat.blt k m=true:=by rw[blt_eq];simpa using hk
  simp only[Option.bind_some,lε hko,Option.map_some,Tj,E3 hnd hat,Option.getD_some,hbl,cond_true,lρ]
 ·rw[lξ (by omega),hzl,lτ,List.getElem?_drop,show m+(k - m)=k by omega];cases hki:ids[k]? with
  |none=>rfl
  |some i=>
   have hbl:Nat.blt k m=false:=by rw[blt_eq];simpa using hk
   simp only[Option.map_some,Tj,E3 hnd hki,Option.getD_some,hbl,cond_false]
theorem O7 {m:Nat}{ids:List Nat}(hnd:ids.Nodup){out:List Ob}(hm:m≤ids.length)(hle:m≤out.length){φ':List bQ}(hl:φ'.length=out.length)(hlen:φ.length=hp.length)(hlow:∀k,k<m→φ'[k]?=(hH ids φ)[k]?){σ:Nat→Option Nat}{id:Nat}{l:bQ}{o:Ob}
  (hc:id∈ids∨hp.length≤id) (h1:(φ++φ'.drop m)[id]?=some l) (h2:(grow (aj hp (JA m ids (out.map (bB σ)))) ((out.map (bB σ)).drop m))[id]?=some o):
  o= .dead∨∃k o0,φ'[k]?=some l∧out[k]?=some o0∧o=bB σ o0∧((id<hp.length∧k<m∧ids[k]?=some id)∨(hp.length≤id∧k=m+(id - hp.length))):=by
 have hgrow:∀(a b:List Ob),grow a b=a++b:=by intro a b;cases b<;>simp[grow]
 rw[hgrow]at h2;by_cases hlt:id<hp.length
 ·have hmem:=hc.resolve_right (by omega);obtain⟨k,hk⟩:=List.getElem?_of_mem hmem;have hkl:k<ids.length:=by
   rcases lν k ids.length with h|h
   ·exact h
   ·simp[lδ h]at hk
  rw[lη (by rw[bn];exact hlt),Hv hnd hm (by simpa using hle),ek (g:=Tj m ids (out.map (bB σ))),if_pos ⟨hmem,hlt⟩]at h2;rw[lη (by omega)]at h1;simp only[Tj,E3 hnd hk,Option.getD_some]at h2;by_cases hkm:k<m
  ·have hko:k<out.length:=by omega
   have hbl:Nat.blt k m=true:=by rw[blt_eq];simpa using hkm
   rw[hbl]at h2;refine .inr ⟨k,out[k],?_,lε hko,?_,.inl ⟨hlt,hkm,hk⟩⟩
   ·rw[hlow k hkm];simp[hH,hk,h1]
   ·simp[hko]at h2;exact h2.symm
  ·have hbl:Nat.blt k m=false:=by rw[blt_eq];simpa using hkm
   rw[hbl]at h2;simp only[cond_false,lα]at h2;exact .inl h2.symm
 ·have hge:hp.length≤id:=Nat.le_of_not_lt hlt;rw[lξ (by rw[bn];exact hge),bn,List.getElem?_drop,lτ,mψ]at h2;rw[lξ (by omega),List.getElem?_drop,hlen]at h1;obtain⟨o0,ho,rfl⟩:=h2;exact .inr ⟨m+(id - hp.length),o0,h1,ho,rfl,.inr ⟨hge,rfl⟩⟩
theorem vp {call:aC}(hr:HR φ w S hp)(hg:GR G w S){f m:Nat}{ds:List D}{vs:List Value}(hv:Pw (VR φ w S) ds vs){ids:List Nat}(hnd:ids.Nodup)(hm:m≤ids.length)
  (hcall:∀r out,call f (mapD.mapDL (idx ids) ds) (bt ids hp)=some (r,out)→cS P f∧∀φ w S vs,HR φ w S (bt ids hp)→GR G w S→Pw (VR φ w S) (mapD.mapDL (idx ids) ds) vs→Calls P f vs.toArray w (RetOk φ (bt ids hp) w S r out m))
  (h:hZ call f ds m ids (ids.map (aN hp)) hp.length=some (d,ups,new)):
  cS P f∧Calls P f vs.toArray w (RetOk φ hp w S d (grow (aj hp ups) new) hp.length):=by
 unfold hZ at h;rw[FQ]at h;split at h
 ·simp at h
 ·rename_i r out hcl;rw[ble_eq]at h;by_cases hle:m≤out.length
  ·simp only[hle,decide_true,cond_true,lα,lι]at h;obtain⟨rfl,rfl,rfl⟩:=h;refine⟨(hcall r out hcl).1,((hcall r out hcl).2 (hH ids φ) w S vs (hr.shrink hnd) hg (Ec (nf ids φ) hv)).mono fun e w' he=>?_⟩
   cases e with
   |panicked c=>exact he
   |outgrown=>exact he
   |returned v=>
    obtain⟨φ',S',h1,h2,h3,h4⟩:=he;have hlen:=hr.len;have hl:=h2.len;have hgrow:∀(a b:List Ob),grow a b=a++b:=by intro a b;cases b<;>simp[grow]
    have hlo:∀id,id<hp.length→(φ++φ'.drop m)[id]?=φ[id]?:=fun id hid=>lη (by omega)
    have hups:((ids.take m).zip (out.map (bB (back m hp.length ids out.length)))++(ids.drop m).map fun i=>(i,.dead))=JA m ids (out.map (bB (back m hp.length ids out.length))):=rfl
    rw[hups]
    -- the callee's names,back to the caller's
    have hren:Ren (back m hp.length ids out.length) φ' (φ++φ'.drop m):=by
     intro k j hj l hl1 hn;unfold back at hj;rw[blt_eq,blt_eq]at hj;by_cases hk:k<m
     ·simp only[hk,decide_true,cond_true]at hj;rw[h4 k hk]at hl1;simp only[hH,lτ,hj,Option.map_some,lα]at hl1;rcases lν j φ.length with hjl|hjl
      ·rw[lη hjl,lε hjl];rw[lρ,lε hjl]at hl1;simpa using hl1
      ·rw[lρ,lδ hjl]at hl1;exact absurd hl1.symm hn
     ·simp only[hk,decide_false,cond_false]at hj;by_cases hk2:k<out.length
      ·simp only[hk2,decide_true,cond_true,lα]at hj;subst hj;rw[lξ (by omega),List.getElem?_drop];rw[show m+(hp.length+(k - m) - φ.length)=k by omega];exact hl1
      ·simp[hk2]at hj
    have hext:Ext φ (φ++φ'.drop m):=by
     intro id l hl1 _;have:id<φ.length:=by
      rcases lν id φ.length with h|h
      ·exact h
      ·simp[lδ h]at hl1
     rw[lη this];exact hl1
    have hoc:∀b,bc (hH ids φ) (bt ids hp) b→oe φ hp (fun id=>id∈ids∨hp.length≤id) b:=by
     intro b hb;obtain⟨i,l,o,hc,g1,g2,g3⟩:=oK hr hb;exact⟨i,l,o,.inl hc,g1,g2,g3⟩
    have hat:=fun {id l o} (hc:id∈ids∨hp.length≤id) (q1:(φ++φ'.drop m)[id]?=some l) (q2:(grow (aj hp (JA m ids (out.map (bB (back m hp.length ids out.length))))) ((out.map (bB (back m hp.length ids out.length))).drop m))[id]?=some o)=>
     O7 hnd hm hle hl hlen h4 hc q1 q2
    have hdead:∀{l:bQ} {b:Nat},bq l .dead=some b→False:=fun {l b} h=>by cases l<;>simp[bq]at h
    obtain⟨k1,k2⟩:=hr.gen (φ':=φ++φ'.drop m) (hp':=grow (aj hp (JA m ids (out.map (bB (back m hp.length ids out.length))))) ((out.map (bB (back m hp.length ids out.length))).drop m)) (S':=S') (w':=w') (fun id=>id∈ids∨hp.length≤id)
     (by rw[hgrow];simp[bn];omega)
     (fun id hc=>by
      simp only[not_or,Nat.not_le]at hc;refine⟨hlo id hc.2,?_⟩;rw[hgrow,lη (by rw[bn];exact hc.2),Hv hnd hm (by simpa using hle),ek (g:=Tj m ids (out.map (bB (back m hp.length ids out.length)))),if_neg (fun hh=>hc.1 hh.1)])
     hext
     (fun b hb hc=>h3.keep b hb fun ho=>hc (hoc b ho)) h3.size h3.os h3.tape h3.output h3.sub
     (fun b hb=>(h3.news b hb).imp_right (·.imp_left (hoc b))) h2.low
     (fun id l o hc q1 q2=>by
      rcases hat hc q1 q2 with rfl|⟨k,o0,g1,g2,rfl,_⟩
      ·simp only[OR]
      ·exact JW hren (h2.obj k l o0 g1 g2))
     (fun id l o b hc q1 q2 q3=>by
      rcases hat hc q1 q2 with rfl|⟨k,o0,g1,g2,rfl,_⟩
      ·exact(hdead q3).elim
      rw[qh]at q3;have hOw:bc φ' out b:=⟨k,l,o0,g1,g2,q3⟩;exact⟨(h3.newo b hOw).imp_left (hoc b),(h2.own b hOw).2,(h2.own b hOw).1⟩)
     (fun id id' l l' o o' b hc hc' q1 q2 q1' q2' q3 q3'=>by
      rcases hat hc q1 q2 with rfl|⟨k,o0,g1,g2,rfl,gk⟩
      ·exact(hdead q3).elim
      rcases hat hc' q1' q2' with rfl|⟨k',o0',g1',g2',rfl,gk'⟩
      ·exact(hdead q3').elim
      rw[qh]at q3 q3';have:=h2.one k k' l l' o0 o0' b g1 g2 g1' g2' q3 q3';subst this;rcases gk with⟨a1,a3,a2⟩|⟨a1,a2⟩<;>rcases gk' with⟨b1,b3,b2⟩|⟨b1,b2⟩
      ·rw[a2]at b2;simpa using b2
      ·omega
      ·omega
      ·omega)
    exact⟨_,S',uT hren r h1,k1,k2,hlo⟩
  ·simp[hle]at h
theorem yh (call:aC)(f:Nat)(ds:List D)(ids:List Nat)(obs:List Ob)(len:Nat):dQ call f ds ids obs len=hZ call f ds ids.length ids obs len:=by
 unfold dQ hZ;simp only[List.take_length,List.drop_length,List.map_nil,lχ]
theorem Lw [Mv]{call:aC}(hcall:eF P G call)(hr:HR φ w S hp)(hg:GR G w S){f:Nat}{ds:List D}{vs:List Value}(hv:Pw (VR φ w S) ds vs){ids:List Nat}(hnd:ids.Nodup)
  (h:mj call f ds ids (ids.map (aN hp)) hp.length=some (d,ups,new)):
  cS P f∧Calls P f vs.toArray w (RetOk φ hp w S d (grow (aj hp ups) new) hp.length):=by
 have hsl:(bt ids hp).length=ids.length:=by simp[bt]
 unfold mj at h;cases hmv:Mv.mv f
 ·rw[hmv]at h;simp only[cond_false]at h;rw[yh]at h;refine vp hr hg hv hnd (Nat.le_refl _) (fun r out hc=>?_) h;have:=hcall f _ _ r out hc;rw[E6 hmv,hsl]at this;exact this
 ·rw[hmv]at h;simp only[cond_true]at h;refine vp hr hg hv hnd (pV _ _ _) (fun r out hc=>?_) h;have:=hcall f _ _ r out hc;rw[hsl]at this;exact this
end
end Go.Ab
end
section
namespace Go.Ab
open Go
variable [Letters]
structure np (G:bx)(N:Nat)(a:Act)(φ:List bQ)(w:World)(S:Nat→Prop)(st:St):Prop where
 tmr:JD φ w S st.tm a
 gr:GR G w S
 hr:HR φ w S st.hp
 size:N≤a.tmps.size
 defers:a.defers=[]
theorem np.cx {G:bx}{N:Nat}{a:Act}{φ:List bQ}{w:World}{S:Nat→Prop}{st:St}(h:np G N a φ w S st):Cx G a φ w S st.hp st.tm:=⟨h.tmr,h.gr,h.hr⟩
theorem C6 {φ:List bQ}{w:World}{S:Nat→Prop}{d:D}{v:Value}(h:VR φ w S d v):VR φ w S (C4 d) v:=by
 cases d<;>simp only[C4]<;>first
  |exact h
  |(
    simp only[VR]at h;obtain⟨a,cap,us,rfl,h1,_,h3,h4⟩:=h;simp only[VR,PR];exact⟨a,cap,us,rfl,h1,h3,h4⟩)
theorem C5 {φ:List bQ}{w:World}{S:Nat→Prop}{ds:List D}{vs:List Value}(h:Pw (VR φ w S) ds vs):Pw (VR φ w S) (ds.map C4) vs:=
 Pw.map_left (h.mono fun _ _ hh=>C6 hh)
theorem G4 {φ:List bQ}{w:World}{S:Nat→Prop}{d:D}{v:Value}(h:VR φ w S d v):VR φ w S (norm d) v:=by
 cases d with
 |sl g z es=>exact C6 h
 |agg ds=>
  simp only[VR]at h;obtain⟨vs,rfl,h1,h2⟩:=h;have:=mH (C5 (VRs_iff.1 h1)) h2;rwa [Array.toArray_toList]at this
 |tup ds=>
  simp only[VR]at h;obtain⟨vs,rfl,h1⟩:=h;simp only[norm,VR];exact⟨vs,rfl,VRs_iff.2 (C5 (VRs_iff.1 h1))⟩
 |_=>exact h
theorem AI {φ:List bQ}{w:World}{S:Nat→Prop}{ds:List D}{vs:List Value}(h:Pw (VR φ w S) ds vs):Pw (VR φ w S) (ds.map norm) vs:=
 Pw.map_left (h.mono fun _ _ hh=>G4 hh)
section
variable {P:Program} {G:bx} {N:Nat} {o:Oper} {a:Act} {φ:List bQ} {w:World} {S:Nat→Prop} {hp:List Ob} {tm:Tm} {st st':St} {base:Nat}
theorem vw {c:Call}{x:Operand}{f:Nat}{fs cs:Array Value}(ho:o.op= .call c)(hc:c.callee= .value x)(hx:a.eval x= .func (.func f) fs cs):
  (execOp a.eval o).run P w=(callFunc f (fs++c.args.map a.eval++cs)).run P w:=by
 simp[execOp,ho,resolve,hc,hx,Deferred.ofValue,invoke]
theorem oA {c:Call}{x:Operand}{f:Nat}{fs cs:Array Value}(ho:o.op= .call c)(hc:c.callee= .value x)(hx:a.eval x= .func (.func f) fs cs)(hf:cS P f):
  (execOp a.eval o).run P w= .ok (.enter f (fs++c.args.map a.eval++cs)) w:=by
 rw[vw ho hc hx];obtain⟨fn,h1,h2,h3⟩:=hf;have h4 : fn.name ≠ "runtime.NumGoroutine" := by simpa using h3
 have h5:fn.body≠none:=by intro e;rw[e]at h2;simp at h2
 simp[callFunc,h1,h5,h4]
theorem ym {φ:List bQ}{w:World}{S:Nat→Prop}{f:Nat}{caps args:List D}{fs vs cs:List Value}(hk:fs.length=Q5 f)(hc:Pw (VR φ w S) caps (fs++cs))(ha:Pw (VR φ w S) args vs):Pw (VR φ w S) (iO f caps args) (fs++vs++cs):=by
 unfold iO;have h1:=hc.take (Q5 f);have h2:=hc.drop (Q5 f);rw[←hk,List.take_left' rfl]at h1;rw[←hk,List.drop_left' rfl]at h2;rw[mζ,←hk];exact h1.append (ha.append h2)
theorem KX {op:BinOp}{t:TypeId}{x y:Operand}{q:O}(h:KW P op t x y=some q):cu q=false:=by
 unfold KW at h;simp only[cond_eq_ite]at h;repeat' split at h
 all_goals first
  |(simp at h;done)
  |(simp only[lα]at h;subst h;rfl)
theorem Im {s t:TypeId}{q:O}(h:pp P s t=some q):cu q=false:=by
 unfold pp at h;simp only[cond_eq_ite]at h;repeat' split at h
 all_goals first
  |(simp at h;done)
  |(simp only[lα]at h;subst h;rfl)
theorem In {raw:Nat→Bool}{q:O}{as:List A}(hq:KZ P G raw o=some (q,as))(hic:cu q=true):∃c,o.op= .call c∧mh P G raw c=some (q,as):=by
 unfold KZ at hq;split at hq;all_goals first
  |(rename_i c ho;exact⟨c,ho,hq⟩)
  |skip
 all_goals try simp only[cond_eq_ite]at hq
 all_goals (repeat' split at hq)
 all_goals first
  |(simp at hq;done)
  |(obtain⟨_,_,he⟩:=cg hq;cases he;simp[cu]at hic;done)
  |(obtain⟨_,_,_,_,he⟩:=gD hq;cases he;simp[cu]at hic;done)
  |(obtain⟨rfl,rfl⟩:=bd hq;simp[cu]at hic;done)
  |(obtain⟨_,_,_,_,he⟩:=gD hq;cases he;rename_i hcb;rw[KX hcb]at hic;simp at hic;done)
  |(obtain⟨_,_,he⟩:=cg hq;cases he;rename_i hcb;rw[Im hcb]at hic;simp at hic;done)
  |skip
theorem K0 {raw:Nat→Bool}{q:O}{as:List A}(hq:RT P G raw o=some (q,as))(hic:cu q=true):∃c,o.op= .call c∧mh P G raw c=some (q,as):=by
 unfold RT at hq;split at hq
 ·rename_i r hr;simp only[lα]at hq;subst hq;exact In hr hic
 ·simp only[lα,lι]at hq;obtain⟨rfl,rfl⟩:=hq;cases hic
theorem B4 {raw:Nat→Bool}{c:Call}{q:O}{as:List A}(hq:mh P G raw c=some (q,as))(hic:cu q=true):∃x,c.callee= .value x:=by
 unfold mh at hq;simp only[cond_eq_ite]at hq;repeat' split at hq
 all_goals first
  |(simp at hq;done)
  |exact⟨_,‹_›⟩
  |(obtain⟨rfl,rfl⟩:=bd hq;simp[cu]at hic;done)
  |skip
theorem Jl {r:Nat}{es:Array MapEntry}{clock t:Nat}(hb:w.heap[r]?=some (.map es clock)):
  (Extern.MapsClone.clone #[.iface t (.map (some r))]).run P w= .ok (.iface t (.map (some w.heap.size))) (w.alloc (.map es clock)):=by
 have e:Extern.MapsClone.clone #[.iface t (.map (some r))]=(getObj r >>= fun o=>match o with
   | .map entries clock=>(newObj (.map entries clock) >>= fun n=>pure (.iface t (.map (some n))))
   | _ => stuck "maps.clone: a map expected") := rfl
 rw[e];simp only[Sem.run_bind,ce hb,Result.andThen_ok];rfl
theorem ET {fn : Func} (h : fn.name = "maps.clone") : Extern.find fn = some Extern.MapsClone.clone := by
 unfold Extern.find;simp only[h];rfl
theorem np.after (h:np G N a φ w S st){φ':List bQ}{w':World}{S':Nat→Prop}{d:Option Nat}{x:D}{v:Value}{hp':List Ob}(hd:yi d a)(hv:VR φ' w' S' x v)(hr:HR φ' w' S' hp')(he:Ext φ φ')(hf:Fr (bc φ st.hp) S w (bc φ' hp') S' w'):
  np G N (a.put d v) φ' w' S' ⟨put d x st.tm,hp'⟩ where
 tmr:=Ga hd (iF he (hf.stable h.hr) hf.sub h.tmr) hv
 gr:=tG (hf.stable h.hr) hf.sub h.gr
 hr:=hr
 size:=by have:=h.size;cases d<;>simpa[Act.put]using this
 defers:=by rw[←h.defers];cases d<;>simp[Act.put]
theorem C9 {id:Nat}(h:bV (aN hp id)=true):hp[id]?=some .unborn:=by
 cases hc:aN hp id<;>rw[hc]at h<;>simp[bV]at h;exact dO hc (by simp)
theorem uV [Mv]{call:aC}{q:O}{kk len:Nat}{vs:List D}{ids:List Nat}{obs:List Ob}(h:cu q=false):ra call base q kk vs ids obs len=kq call base q kk vs ids obs len:=by
 cases q<;>first|rfl|(simp[cu]at h)
theorem j4 [Mv]{q:O}{vs:List D}{hp:List Ob}(h:cu q=false):cm q vs hp=bg q vs hp:=by
 cases q<;>first|rfl|(simp[cu]at h)
theorem mo:∀(ws acc:List Nat),acc.Nodup→(iM ws acc).Nodup
 |[],acc,h=>h
 |i::r,acc,h=>by
  simp only[iM];cases hc:acc.contains i
  ·refine mo r _ ?_;rw[List.nodup_append];refine⟨h,by simp,?_⟩
   intro a ha b hb e;simp at hb;subst hb;subst e;simp[ha]at hc
  ·exact mo r acc h
theorem pT [Mv](f:Nat)(ws:List Nat)(hp:List Ob):(oH f ws hp).Nodup:=by
 unfold oH;cases Mv.mv f
 ·exact(dN _ ws [] (by simp)).1
 ·exact(dN _ _ _ (mo _ _ (by simp))).1
theorem sC [Mv](vs:List D)(hp:List Ob):(nG vs hp).Nodup:=by
 have hc:(bg .callv vs hp).Nodup:=(dN _ (dids.didsL vs) [] (by simp)).1;unfold nG;split
 ·cases Mv.mv _
  ·exact hc
  ·exact pT _ _ _
 ·exact hc
theorem Lv [Mv]{call:aC}{f len:Nat}{ds:List D}{ids:List Nat}{obs:List Ob}{e:ea}(h:(bif Mv.mv f then none else dQ call f ds ids obs len)=some e):mj call f ds ids obs len=some e:=by
 unfold mj;cases hm:Mv.mv f
 ·rw[hm]at h;exact h
 ·rw[hm]at h;cases h
theorem Ra [Mv]{call:aC}(hcall:eF P G call)(rel:np G N a φ w S st){raw:Nat→Bool}{x:dE}(hq:RT P G raw o=some (x.op,x.as))(hdst:x.dst=o.dst)(hN:∀t,o.dst=some t→t<N)(hb:base≤st.hp.length){ft:df}
  (hev:nr call base x st=some (st',ft)) {K:Act→World→Prop} {Q:Exit→Act→World→Prop}
  (hK:∀a' w' φ' S',np G N a' φ' w' S' st'→Fr (bc φ st.hp) S w (bc φ' st'.hp) S' w'→(∀id,id<base→φ'[id]?=φ[id]?)→K a' w'):o.wp P a w K Q:=by
 have hd:yi o.dst a:=fun t ht=>mπ (hN t ht) rel.size
 unfold nr at hev;simp only at hev;cases hmk:(!(cb x.op)||bV (aN st.hp (base+x.k)))with
 |false=>rw[hmk]at hev;simp at hev
 |true=>
  rw[hmk]at hev;simp only[cond_true]at hev;have hmk':cb x.op=true→st.hp[base+x.k]?=some .unborn:=fun h=>by
   rw[h]at hmk;exact C9 (by simpa using hmk)
  split at hev
  ·simp at hev
  ·rename_i d ups new hact;simp only[lα,lι]at hev;obtain⟨rfl,rfl⟩:=hev;have gZ:EffOk P o a φ w S st.hp base d (grow (aj st.hp ups) new)→o.wp P a w K Q:=by
    rintro⟨v,w',φ',S',h1,h2,h3,h4,h5,h6⟩
    refine h1.wp (hK _ _ φ' S' ?_ h5 h6);rw[hdst];exact rel.after hd h2 h3 h4 h5
   have finc:∀f args,(execOp a.eval o).run P w= .ok (.enter f args) w→Calls P f args w (RetOk φ st.hp w S d (grow (aj st.hp ups) new) st.hp.length)→o.wp P a w K Q:=by
    intro f args hrun hc;unfold Oper.wp;rw[hrun,Oper.upon_enter];refine hc.mono fun e w' he=>?_
    cases e with
    |panicked c=>exact he.elim
    |outgrown=>exact he.elim
    |returned v=>
     obtain⟨φ',S',h2,h3,h5,h6⟩:=he;refine hK _ _ φ' S' ?_ h5 (fun id hid=>h6 id (by omega));have he:Ext φ φ':=fun id l hl _=>by
      have:id<φ.length:=by
       rcases lν id φ.length with h|h
       ·exact h
       ·simp[lδ h]at hl
      rw[h6 id (by rw[←rel.hr.len];exact this)];exact hl
     rw[hdst];exact rel.after hd h2 h3 he h5
   cases hic:cu x.op with
   |false=>
    rw[uV hic,j4 hic]at hact;exact gZ (Sj rel.cx hq hic hmk' hact)
   |true=>
    obtain⟨c,ho,hcq⟩:=K0 hq hic;obtain⟨xo,hc⟩:=B4 hcq hic;have hrelc:=rel.cx;unfold mh at hcq;rw[hc]at hcq;simp only at hcq;have hgo:∀{as':List A} {ds:List D} {f:Nat} {ids:List Nat} {vs:Array Value},ids.Nodup→Pw (VR φ w S) ds vs.toList→mj call f ds ids (ids.map (aN st.hp)) st.hp.length=some (d,ups,new)→(cS P f→(execOp a.eval o).run P w= .ok (.enter f vs) w)→o.wp P a w K Q:=by
     intro as' ds f ids vs hnd hp1 hdc hrun;obtain⟨h1,h2⟩:=Lw hcall rel.hr rel.gr hp1 hnd hdc;rw[Array.toArray_toList]at h2;exact finc f vs (hrun h1) h2
    have hnd:∀ws,(close st.hp aW ws []).Nodup:=fun ws=>(dN _ ws [] (by simp)).1
    split at hcq
    ·rename_i f heq;simp only[Callee.value.injEq]at heq;subst heq;split at hcq
     ·rename_i fn as' hfn has;have hargs:=bW (a:=a) rel.tmr rel.gr has;have hargs':(#[]++c.args.map a.eval++ #[]).toList=c.args.toList.map a.eval:=by simp
      split at hcq
      ·obtain⟨hx1,hx2⟩:=bd hcq;rw[←hx1,←hx2]at hact;simp only[ra,cm]at hact;refine hgo (as':=as') (vs:= #[]++c.args.map a.eval++ #[]) (pT _ _ _) ?_ hact (fun hf=>oA ho hc rfl hf);rw[hargs'];cases raw f with
       |true=>exact hargs
       |false=>exact AI hargs
      ·rename_i hbody;cases hcl : (fn.name == "maps.clone" && (Extern.findNext fn).isNone) with
       |false=>
        rw[hcl,cond_false]at hcq;cases hne : (fn.name == "internal/abi.NoEscape" && (Extern.findNext fn).isNone) with
        |false=>rw[hne]at hcq;simp at hcq
        |true=>
         rw[hne,cond_true]at hcq;obtain⟨hx1,hx2⟩:=bd hcq;rw[←hx1]at hic;cases hic
       |true=>
        rw[hcl]at hcq;simp only[cond_true]at hcq;obtain⟨hx1,hx2⟩:=bd hcq;rw[lβ,beq_iff_eq]at hcl;have hmk2:=hmk' (by rw[←hx1];rfl);rw[←hx1,←hx2]at hact;simp only[ra,cm,kq,bg]at hact;have hex:∀{v:Value} {r:Nat} {es:Array MapEntry} {clock t:Nat},c.args.map a.eval= #[.iface t (.map (some r))]→w.heap[r]?=some (.map es clock)→
          (execOp a.eval o).run P w= .ok (.value (.iface t (.map (some w.heap.size)))) (w.alloc (.map es clock)):=by
         intro v r es clock t e1 e2;rw[vw ho hc rfl,run_callFunc_extern hfn (by rw[hcl.1];rfl) (by rw[hbody];rfl) (by simpa using hcl.2) (ET hcl.1)];rw[show #[]++c.args.map a.eval++ #[]= #[.iface t (.map (some r))] by rw[e1];rfl,Jl e2];rfl
        have hfin:∀{t r:Nat} {ks ws:List Da} {es:Array MapEntry} {clock:Nat},c.args.map a.eval= #[.iface t (.map (some r))]→w.heap[r]?=some (.map es clock)→Pw (PR w S) ks (es.toList.map (·.key))→Pw (PR w S) ws (es.toList.map (·.val))→
          EffOk P o a φ w S st.hp base (.iface t (.map (base+x.k))) (grow (aj st.hp [(base+x.k,.map ks ws)]) []):=by
         intro t r ks ws es clock e1 e2 p1 p2;have hst:du S w (w.alloc (.map es clock)):=fun b hb=>iq w _ (rel.hr.low b hb)
         obtain⟨g1,g2,g3⟩:=rel.hr.born hmk2 (.map es clock) (l:= .map w.heap.size) (ob:= .map ks ws) (fun b hb=>by simp[bq]at hb;exact hb.symm) (by
          simp only[OR];exact⟨es,clock,dM w _,p1.mono fun _ _ hh=>bb hst (fun _ h=>h) _ hh,p2.mono fun _ _ hh=>bb hst (fun _ h=>h) _ hh⟩)
         refine⟨.iface t (.map (some w.heap.size)),_,_,S,.inl (hex (v:=undef) e1 e2),?_,by simpa[grow,aj,aX]using g1,g3,by simpa[grow,aj,aX]using g2,fQ⟩
         simp only[VR];exact⟨_,rfl,_,ej rel.hr hmk2,rfl⟩
        refine gZ ?_;unfold Ks at hact;split at hact
        ·rename_i t id heq;obtain⟨v,e1,e2⟩:=td rel.cx has heq;simp only[VR]at e2;obtain⟨u,rfl,r,hr1,rfl⟩:=e2;split at hact
         ·rename_i ks ws hl;simp only[lα,lι]at hact;obtain⟨rfl,rfl,rfl⟩:=hact;obtain⟨es,clock,g1,g2,g3⟩:=rel.hr.obj id _ _ hr1 (bj hl (by simp));exact hfin e1 g1 g2 g3
         ·rename_i ks ws hl;simp only[lα,lι]at hact;obtain⟨rfl,rfl,rfl⟩:=hact;obtain⟨_,es,clock,g1,g2,g3⟩:=rel.hr.obj id _ _ hr1 (bj hl (by simp));exact hfin e1 g1 g2 g3
         ·simp at hact
        ·rename_i t ks ws heq;obtain⟨v,e1,e2⟩:=td rel.cx has heq;simp only[VR,PR]at e2;obtain⟨u,rfl,r,es,clock,rfl,hS,g1,g2,g3⟩:=e2;simp only[lα,lι]at hact;obtain⟨rfl,rfl,rfl⟩:=hact;exact hfin e1 g1 (PRs_iff.1 g2) (PRs_iff.1 g3)
        ·simp at hact
     ·simp at hcq
    ·rename_i g hng heq;simp only[Callee.value.injEq]at heq;subst heq;split at hcq
     ·rename_i g' as' hg' has;obtain⟨hx1,hx2⟩:=bd hcq;have hargs:=bW (a:=a) rel.tmr rel.gr has;have hfv:=aQ (a:=a) rel.tmr rel.gr hg';rw[←hx1,←hx2]at hact;simp only[ra,cm,List.map_cons]at hact;generalize ev st.tm g'=dg at*
      unfold ve at hact;split at hact
      ·rename_i f caps args heq;simp only[lκ]at heq;obtain⟨rfl,rfl⟩:=heq;simp only[VR,PR]at hfv;obtain⟨fs,cs,hfe,hk,hcs⟩:=hfv;refine hgo (as':=as') (vs:=fs++c.args.map a.eval++cs) (sC _ _) ?_ (Lv hact) (fun hf=>oA ho hc hfe hf);have:(fs++c.args.map a.eval++cs).toList=fs.toList++c.args.toList.map a.eval++cs.toList:=by simp
       rw[this];exact ym (by simpa using hk) (Pw.map_left ((PRs_iff.1 hcs).mono fun _ _ hh=>by simp only[VR];exact hh)) (AI hargs)
      ·rename_i f caps args heq;simp only[lκ]at heq;obtain⟨rfl,rfl⟩:=heq;simp only[VR]at hfv;obtain⟨fs,cs,hfe,hk,hcs⟩:=hfv;refine hgo (as':=as') (vs:=fs++c.args.map a.eval++cs) (sC _ _) ?_ hact (fun hf=>oA ho hc hfe hf);have:(fs++c.args.map a.eval++cs).toList=fs.toList++c.args.toList.map a.eval++cs.toList:=by simp
       rw[this];exact ym (by simpa using hk) (VRs_iff.1 hcs) (AI hargs)
      ·simp at hact
     ·simp at hcq
    ·rename_i hb;simp at hb
    ·rename_i hb;simp at hb
end
end Go.Ab
end
section
namespace Go.Ab
open Go
variable [Letters] [Mv]
theorem gB (a b:List Ob):grow a b=a++b:=by cases b<;>simp[grow]
section
variable {P:Program} {G:bx} {N:Nat} {o:Oper} {a:Act} {φ:List bQ} {w:World} {S:Nat→Prop} {hp:List Ob} {tm:Tm} {st st':St} {base:Nat}
theorem HR.reserve (hr:HR φ w S hp)(n:Nat):HR (φ++List.replicate n .none) w S (hp++List.replicate n .unborn)∧(∀b,bc (φ++List.replicate n .none) (hp++List.replicate n .unborn) b→bc φ hp b)∧Ext φ (φ++List.replicate n .none):=by
 have hext:Ext φ (φ++List.replicate n .none):=by
  intro id l hl _;have:id<φ.length:=by
   rcases lν id φ.length with h|h
   ·exact h
   ·simp[lδ h]at hl
  rw[lη this];exact hl
 have hat:∀{id:Nat} {l:bQ} {o:Ob},(φ++List.replicate n .none)[id]?=some l→(hp++List.replicate n .unborn)[id]?=some o→(φ[id]?=some l∧hp[id]?=some o)∨(l= .none∧o= .unborn):=by
  intro id l o h1 h2;rcases lν id hp.length with h|h
  ·rw[lη h]at h2;rw[lη (by rw[hr.len];exact h)]at h1;exact .inl ⟨h1,h2⟩
  ·rw[lξ h]at h2;rw[lξ (by rw[hr.len];exact h)]at h1;rw[List.getElem?_replicate]at h1 h2;split at h1<;>simp at h1;split at h2<;>simp at h2;exact .inr ⟨h1.symm,h2.symm⟩
 have hown:∀b,bc (φ++List.replicate n .none) (hp++List.replicate n .unborn) b→bc φ hp b:=by
  rintro b ⟨id,l,o,h1,h2,h3⟩
  rcases hat h1 h2 with⟨g1,g2⟩|⟨rfl,rfl⟩
  ·exact⟨id,l,o,g1,g2,h3⟩
  ·simp[bq]at h3
 refine⟨⟨by simp[hr.len],?_,fun b hb=>hr.own b (hown b hb),?_,hr.low⟩,hown,hext⟩
 ·intro id l o h1 h2;rcases hat h1 h2 with⟨g1,g2⟩|⟨rfl,rfl⟩
  ·exact ph hext (fun _ _=>rfl) (fun _ h=>h) (fun _ _=>rfl) (hr.obj id l o g1 g2)
  ·simp only[OR]
 ·intro id id' l l' o o' b h1 h2 h1' h2' h3 h3';rcases hat h1 h2 with⟨g1,g2⟩|⟨rfl,rfl⟩
  ·rcases hat h1' h2' with⟨g1',g2'⟩|⟨rfl,rfl⟩
   ·exact hr.one id id' l l' o o' b g1 g2 g1' g2' h3 h3'
   ·simp[bq]at h3'
  ·simp[bq]at h3
theorem np.reserve (h:np G N a φ w S st)(n:Nat):np G N a (φ++List.replicate n .none) w S ⟨st.tm,grow st.hp (List.replicate n .unborn)⟩ where
 tmr:=iF (h.hr.reserve n).2.2 (fun _ _=>rfl) (fun _ h=>h) h.tmr
 gr:=h.gr
 hr:=by simp only[gB];exact(h.hr.reserve n).1
 size:=h.size
 defers:=h.defers
structure Od (P:Program)(G:bx)(raw:Nat→Bool)(N:Nat)(all:List Oper)(o:Oper)(x:dE):Prop where
 op:RT P G raw o=some (x.op,x.as)
 gd:zQ all o.guard=some x.gd
 dst:x.dst=o.dst
 lt:∀t,o.dst=some t→t<N
theorem fD {α:Type}{b:Bool}{e:Option α}{r:α}(h:(bif b then e else none)=some r):b=true∧e=some r:=by
 cases b with
 |false=>simp at h
 |true=>exact⟨rfl,h⟩
theorem zR {raw:Nat→Bool}{all:List Oper}:∀{l:List Oper} {k k':Nat} {xs:List dE},EE P G raw N all l k=some (xs,k')→Pw (Od P G raw N all) l xs
 |[],k,k',xs,h=>by
  simp only[EE,lα,lι]at h;obtain⟨rfl,rfl⟩:=h;exact Pw.nil
 |o::r,k,k',xs,h=>by
  simp only[EE]at h;split at h
  ·rename_i q as gd hq hgd;obtain⟨hd,h⟩:=fD h;split at h
   ·rename_i ys n hys;simp only[lα,lι]at h;obtain⟨rfl,rfl⟩:=h;refine Pw.cons ⟨hq,hgd,rfl,fun t ht=>?_⟩ (zR hys)
    rw[ht]at hd;simpa[blt_eq]using hd
   ·simp at h
  ·simp at h
theorem pS {ops:Array Oper}{raw:Nat→Bool}{x:dE}(ht:JD φ w S tm a)(hx:Od P G raw N ops.toList o x){b:Bool}(h:cp x tm=some b):Region.wanted o (yielded ops a.tmps)=b:=by
 have hg:=hx.gd;unfold cp at h;unfold Region.wanted;cases hgu:o.guard with
 |none=>
  rw[hgu]at hg;simp only[zQ,lα]at hg;rw[←hg]at h;simp at h;simp[h]
 |some p=>
  obtain⟨j,want⟩:=p;rw[hgu]at hg;simp only[zQ]at hg;split at hg
  ·rename_i oj hoj;split at hg
   ·rename_i dd hdd;simp only[lα]at hg;rw[←hg]at h;simp only at h;have hv:=ht dd;have hy:yielded ops a.tmps j=(match a.tmps[dd]? with|some (.bool b)=>some b|_=>none):=by
     unfold yielded;have:ops[j]?=some oj:=by simpa using hoj
     rw[this];simp only[Option.bind_some,hdd];rfl
    split at h
    ·rename_i b' hb';rw[hb']at hv;simp only[VR,PR]at hv;simp only[lα]at h;subst h;have:a.tmps[dd]?=some (.bool b'):=by
      rw[Array.getD_eq_getD_getElem?]at hv;cases hc:a.tmps[dd]? with
      |none=>rw[hc]at hv;simp[undef]at hv
      |some u=>rw[hc]at hv;simp at hv;rw[hv]
     simp only[hy,this];cases b'<;>cases want<;>rfl
    ·rename_i hb';rw[hb']at hv;simp only[VR,tI]at hv;obtain⟨vs,hv,_⟩:=hv;simp only[lα]at h;subst h;have:(match a.tmps[dd]? with|some (.bool b)=>some b|_=>none)=none:=by
      rw[Array.getD_eq_getD_getElem?]at hv;cases hc:a.tmps[dd]? with
      |none=>rfl
      |some u=>rw[hc]at hv;simp at hv;rw[hv]
     simp only[hy,this];rfl
    ·simp at h
   ·simp at hg
  ·simp at hg
theorem Cu {call:aC}{x:dE}{ft:df}(h:nr call base x st=some (st',ft)):st.hp.length≤st'.hp.length:=by
 unfold nr at h;simp only at h;cases hmk:(!(cb x.op)||bV (aN st.hp (base+x.k)))with
 |false=>rw[hmk]at h;simp at h
 |true=>
  rw[hmk]at h;simp only[cond_true]at h;split at h
  ·simp at h
  ·simp only[lα,lι]at h;obtain⟨rfl,rfl⟩:=h;simp[gB,bn]
theorem np.skip (h:np G N a φ w S st){d:Option Nat}(hd:yi d a):np G N (a.put d undef) φ w S ⟨put d (.tup []) st.tm,st.hp⟩ where
 tmr:=Ga hd h.tmr (by simp only[VR];exact⟨#[],rfl,by simp[tI]⟩)
 gr:=h.gr
 hr:=h.hr
 size:=by have:=h.size;cases d<;>simpa[Act.put]using this
 defers:=by rw[←h.defers];cases d<;>simp[Act.put]
def Later (G:bx)(N base:Nat)(φ:List bQ)(w:World)(S:Nat→Prop)(st st':St)(a':Act)(w':World):Prop:=
 ∃φ' S',np G N a' φ' w' S' st'∧Fr (bc φ st.hp) S w (bc φ' st'.hp) S' w'∧(∀id,id<base→φ'[id]?=φ[id]?)∧base≤st'.hp.length
theorem Fv {call:aC}(hcall:eF P G call){raw:Nat→Bool}{ops:Array Oper}{Q:Exit→Act→World→Prop}{stn:St}:∀{l:List Oper} {xs:List dE} {i:Nat} {st:St} {a:Act} {φ:List bQ} {w:World} {S:Nat→Prop},(∀j o,l[j]?=some o→ops[i+j]?=some o)→Pw (Od P G raw N ops.toList) l xs→jo call base xs st=some stn→
  np G N a φ w S st→base≤st.hp.length→(∀a' w',Later G N base φ w S st stn a' w'→Q .normal a' w')→wpOps P ops Q (List.range' i l.length) a w
 |[],xs,i,st,a,φ,w,S,hl,hx,hev,rel,hb,hQ=>by
  obtain rfl:=hx.nil_inv;simp only[jo,lα]at hev;subst hev;simp only[List.length_nil,List.range'_zero,wpOps];exact hQ a w ⟨φ,S,rel,Fr.refl _ _ _,fun _ _=>rfl,hb⟩
 |o::r,xs,i,st,a,φ,w,S,hl,hx,hev,rel,hb,hQ=>by
  obtain⟨x,xr,rfl,hx1,hx2⟩:=hx.cons_inv;have ho:ops[i]?=some o:=by simpa using hl 0 o rfl
  have hl':∀j o',r[j]?=some o'→ops[i+1+j]?=some o':=fun j o' h=>by
   have:=hl (j+1) o' (by simpa using h);rwa [show i+(j+1)=i+1+j by omega]at this
  rw[List.length_cons,List.range'_succ];simp only[wpOps,ho];simp only[jo]at hev;split at hev
  ·simp at hev
  ·rename_i hgd;split at hev
   ·simp at hev
   ·rename_i st1 ft hop;rw[if_pos (by rw[pS rel.tmr hx1 hgd])];refine .inl (Ra hcall rel hx1.op hx1.dst hx1.lt hb hop fun a' w' φ' S' rel' hf hφ=>?_);refine Fv hcall hl' hx2 hev rel' (mμ hb (Cu hop)) fun a2 w2 hlat=>hQ a2 w2 ?_
    obtain⟨φ2,S2,r1,r2,r3,r4⟩:=hlat;exact⟨φ2,S2,r1,hf.trans r2,fun id hid=>(r3 id hid).trans (hφ id hid),r4⟩
  ·rename_i hgd;rw[if_neg (by rw[pS rel.tmr hx1 hgd];simp)];have hd:yi o.dst a:=fun t ht=>mπ (hx1.lt t ht) rel.size
   rw[hx1.dst]at hev;exact Fv hcall hl' hx2 hev (rel.skip hd) hb hQ
theorem S6 {call:aC}(hcall:eF P G call){raw:Nat→Bool}{id:Nat}{ops:Array Oper}{xs:List dE}{nal k:Nat}{Q:Exit→Act→World→Prop}{stn:St}{m:Nat}(hx:EE P G raw N ops.toList ops.toList 0=some (xs,k))(hev:pJ call nal xs none st=some stn)
  (rel:np G N a φ w S st) (hm:m≤st.hp.length) (hQ:∀a' w',Later G N m φ w S st stn a' w'→Q .normal a' w'):(Code.region id ops false).wp P Q a w:=by
 refine wp_region ?_;rw[List.range_eq_range',←Array.length_toList];have hlen:=rel.hr.len;refine Fv hcall (base:=st.hp.length) (fun j o h=>by simpa using h) (zR hx) hev (rel.reserve nal) (by simp[gB]) fun a' w' hlat=>hQ a' w' ?_
 obtain⟨φ2,S2,r1,r2,r3,r4⟩:=hlat;refine⟨φ2,S2,r1,?_,fun id hid=>?_,mμ hm r4⟩
 ·refine Fr.trans (O1:=bc (φ++List.replicate nal .none) (grow st.hp (List.replicate nal .unborn))) (S1:=S) (w1:=w) ?_ r2;rw[gB];exact(Fr.refl _ _ _).less (rel.hr.reserve nal).2.1
 ·rw[r3 id (by omega),lη (by omega)]
end
end Go.Ab
end
section
namespace Go.Ab
open Go
variable [Letters] [Mv]
def IN (call:aC)(base:Nat)(x:dE)(st:St):Option (St×df):=
 match cp x st.tm with
 |none=>none
 |some true=>nr call base x st
 |some false=>some (⟨put x.dst (.tup []) st.tm,st.hp⟩,⟨[],[],false,0⟩)
def sv:df:=⟨[],[],false,0⟩
theorem vt {call:aC}{base:Nat}:∀{xs:List dE} {st st':St} {fs fs':List df},cU call base xs st fs=some (st',fs')→
  ∃(σ:Nat→St) (F:List df),σ 0=st∧σ xs.length=st'∧fs'=fs.reverse++F∧F.length=xs.length∧∀(i:Nat) x,xs[i]?=some x→IN call base x (σ i)=some (σ (i+1),F.getD i sv)
 |[],st,st',fs,fs',h=>by
  simp only[cU,lα,lι]at h;obtain⟨rfl,rfl⟩:=h;exact⟨fun _=>st,[],rfl,rfl,by simp,rfl,by intro i x h;simp at h⟩
 |x::r,st,st',fs,fs',h=>by
  simp only[cU]at h;have key:∀st1 f,IN call base x st=some (st1,f)→cU call base r st1 (f::fs)=some (st',fs')→
    ∃(σ:Nat→St) (F:List df),σ 0=st∧σ (x::r).length=st'∧fs'=fs.reverse++F∧F.length=(x::r).length∧∀(i:Nat) y,(x::r)[i]?=some y→IN call base y (σ i)=some (σ (i+1),F.getD i sv):=by
   intro st1 f h1 h2;obtain⟨σ,F,g1,g2,g3,g4,g5⟩:=vt h2;refine⟨fun i=>match i with|0=>st|i+1=>σ i,f::F,rfl,g2,by rw[g3];simp,by simp[g4],fun i y hy=>?_⟩
   cases i with
   |zero=>
    simp at hy;subst hy;simpa[g1]using h1
   |succ i=>
    simp at hy;simpa using g5 i y hy
  split at h
  ·simp at h
  ·rename_i hg;split at h
   ·simp at h
   ·rename_i st1 f hop;exact key st1 f (by simp[IN,hg,hop]) h
  ·rename_i hg;exact key _ _ (by simp[IN,hg]) h
theorem Gz:∀{a b:List (Int×Int×Int)},IL a b=true→a=b
 |[],[],_=>rfl
 |[],_::_,h=>by simp[IL]at h
 |_::_,[],h=>by simp[IL]at h
 |(a,l,h)::r,(b,m,i)::s,hh=>by
  simp only[IL,lβ,fM,beq_iff_eq]at hh;obtain⟨rfl,rfl,rfl,h4⟩:=hh;rw[Gz h4]
theorem PB {a b:Sy}(h:Sp a b=true):a=b:=by
 cases a<;>cases b<;>simp only[Sp,lβ,fM,beq_iff_eq,Bool.false_eq_true]at h
 ·rw[h.1,Gz h.2]
 ·rw[h.1,h.2]
mutual
theorem EM:∀(a b:Da),z1 a b=true→a=b
 | .bool a,b,h=>by cases b<;>simp_all [z1]
 | .int i a,b,h=>by cases b<;>simp_all [z1,fM]
 | .str a,b,h=>by cases b<;>simp_all [z1,z8]
 | .agg a,b,h=>by
  cases b<;>simp only[z1,Bool.false_eq_true]at h;rw[dC _ _ h]
 | .slice z a,b,h=>by
  cases b<;>simp only[z1,Bool.false_eq_true,lβ]at h;rw[lζ h.1,dC _ _ h.2]
 | .nilptr,b,h=>by cases b<;>simp_all [z1]
 | .ptr a,b,h=>by
  cases b<;>simp only[z1,Bool.false_eq_true]at h;rw[EM _ _ h]
 | .map a b,c,h=>by
  cases c<;>simp only[z1,Bool.false_eq_true,lβ]at h;rw[dC _ _ h.1,dC _ _ h.2]
 | .nilmap,b,h=>by cases b<;>simp_all [z1]
 | .fn f a,b,h=>by
  cases b<;>simp only[z1,Bool.false_eq_true,lβ]at h;rw[lζ h.1,dC _ _ h.2]
 | .nilfn,b,h=>by cases b<;>simp_all [z1]
 | .iface t x,b,h=>by cases b<;>simp[z1]at h
 | .nilif,b,h=>by cases b<;>simp[z1]at h
 | .sliceE z es,b,h=>by cases b<;>simp[z1]at h
 | .sym i a,b,h=>by
  cases b<;>simp only[z1,Bool.false_eq_true,lβ,lγ]at h;rw[h.1,PB h.2]
theorem dC:∀(a b:List Da),lh a b=true→a=b
 |[],[],_=>rfl
 |[],_::_,h=>by simp[lh]at h
 |_::_,[],h=>by simp[lh]at h
 |x::a,y::b,h=>by
  simp only[lh,lβ]at h;rw[EM _ _ h.1,dC _ _ h.2]
end
mutual
theorem Sn:∀(a b:D),EN a b=true→a=b
 | .p a,b,h=>by
  cases b<;>simp only[EN,Bool.false_eq_true]at h;rw[EM _ _ h]
 | .agg a,b,h=>by
  cases b<;>simp only[EN,Bool.false_eq_true]at h;rw[pF _ _ h]
 | .tup _,b,h=>by cases b<;>simp[EN]at h
 | .box i o,b,h=>by
  cases b<;>simp only[EN,Bool.false_eq_true,lβ]at h;rw[lζ h.1,lζ h.2]
 | .el _ _ _,b,h=>by cases b<;>simp[EN]at h
 | .ip _ _,b,h=>by cases b<;>simp[EN]at h
 | .arr i x y z,b,h=>by
  cases b<;>simp only[EN,Bool.false_eq_true,lβ]at h;rw[lζ h.1,lζ h.2.1,lζ h.2.2.1,lζ h.2.2.2]
 | .sl g z a,b,h=>by
  cases b with
  |sl g2 y b=>
   cases g<;>cases g2<;>simp only[EN,Bool.false_eq_true,lβ]at h
   ·rw[lζ h.1,dC _ _ h.2]
   ·rw[lζ h.1,dC _ _ h.2]
  |_=>cases g<;>simp[EN]at h
 | .map i,b,h=>by
  cases b<;>simp only[EN,Bool.false_eq_true]at h;rw[lζ h]
 | .fn f a,b,h=>by
  cases b<;>simp only[EN,Bool.false_eq_true,lβ]at h;rw[lζ h.1,pF _ _ h.2]
 | .iface _ _,b,h=>by cases b<;>simp[EN]at h
 | .junk,b,h=>by cases b<;>simp[EN]at h
theorem pF:∀(a b:List D),z6 a b=true→a=b
 |[],[],_=>rfl
 |[],_::_,h=>by simp[z6]at h
 |_::_,[],h=>by simp[z6]at h
 |x::a,y::b,h=>by
  simp only[z6,lβ]at h;rw[Sn _ _ h.1,pF _ _ h.2]
end
theorem PA {a b:Ob}(h:EQ a b=true):a=b:=by
 cases a<;>cases b<;>simp only[EQ,Bool.false_eq_true,lβ]at h
 ·rw[pF _ _ h]
 ·rw[dC _ _ h]
 ·rw[dC _ _ h]
 ·rw[dC _ _ h.1,dC _ _ h.2]
 ·rw[dC _ _ h.1,dC _ _ h.2]
 ·rw[dC _ _ h.1,pF _ _ h.2]
theorem yw {i:Nat}:∀{l:List Nat},sA i l=true→i∈l
 |[],h=>by cases h
 |j::r,h=>by
  simp only[sA]at h;rw[beq_eq]at h;by_cases hj:j=i
  ·subst hj;simp
  ·simp only[hj,decide_false,cond_false]at h;exact mκ _ (yw h)
theorem rY {ids:List Nat}{hp:List Ob}{id:Nat}:∀{ups:List (Nat×Ob)} {cur:List Ob},(id∈ids→cur[id]?=hp[id]?)→id∉jy ids hp ups→(aj cur ups)[id]?=cur[id]?
 |[],cur,_,_=>rfl
 |(i,o)::r,cur,hc,h=>by
  simp only[aj,aX];simp only[jy]at h;have step:(cur.set i o)[id]?=cur[id]?∧id∉jy ids hp r:=by
   cases hq:sA i ids&&EQ (aN hp i) o
   ·simp only[hq,cond_false,lω,not_or]at h;exact⟨by rw[mσ (fun e=>h.1 e.symm)],h.2⟩
   ·simp only[hq,cond_true]at h;refine⟨?_,h⟩;by_cases hi:i=id
    ·subst hi;rw[lβ]at hq;have he:=PA hq.2;have hcc:=hc (yw hq.1);rw[List.getElem?_set,if_pos rfl];cases hx:hp[i]? with
     |none=>
      rw[hx]at hcc;rw[hcc];rw[if_neg];intro hlt;rw[lε hlt]at hcc;cases hcc
     |some x=>
      rw[hx]at hcc;have hlt:i<cur.length:=by
       rcases lν i cur.length with h1|h1
       ·exact h1
       ·rw[lδ h1]at hcc;cases hcc
      rw[if_pos hlt,hcc,←he,t6 hx]
    ·rw[mσ hi]
  rw[rY (fun hm=>step.1.trans (hc hm)) step.2,step.1]
theorem ly:∀{ups:List (Nat×Ob)} {hp hp2:List Ob} {id:Nat},hp2[id]?=hp[id]?→(aj hp2 ups)[id]?=(aj hp ups)[id]?
 |[],hp,hp2,id,h=>h
 |(i,o)::r,hp,hp2,id,h=>by
  simp only[aj,aX];refine ly ?_;rw[List.getElem?_set,List.getElem?_set];by_cases hi:i=id
  ·subst hi;simp only[if_true];rcases lν i hp.length with h1|h1<;>rcases lν i hp2.length with h2|h2
   ·rw[if_pos h1,if_pos h2]
   ·rw[lδ h2,lε h1]at h;simp at h
   ·rw[lδ h1,lε h2]at h;simp at h
   ·rw[if_neg (by omega),if_neg (by omega)]
  ·rw[if_neg hi,if_neg hi];exact h
theorem wr_iff {f:df}{id:Nat}:wr f id=true↔id∈f.ws∨(f.grow=true∧f.lim≤id):=by
 simp[wr,ble_eq]
theorem Gi {call:aC}{base:Nat}{q:O}{k:Nat}{vs:List D}{ids:List Nat}{obs:List Ob}{len len':Nat}{d:D}{ups:List (Nat×Ob)}(h:kq call base q k vs ids obs len=some (d,ups,[])):kq call base q k vs ids obs len'=some (d,ups,[]):=by
 have key:∀{f:Nat} {args:List D},dQ call f args ids obs len=some (d,ups,[])→dQ call f args ids obs len'=some (d,ups,[]):=by
  intro f args h;unfold dQ at h ⊢
  split at h
  ·simp at h
  ·rename_i r out hc;obtain⟨hle,h⟩:=fD h;simp only[hc,hle,cond_true];simp only[lα,lι,List.drop_eq_nil_iff,lμ]at h;have hle2:out.length≤ids.length:=h.2.2;have hb:back ids.length len ids out.length=back ids.length len' ids out.length:=by
    funext k
    unfold back;rw[blt_eq,blt_eq];by_cases hk:k<ids.length
    ·simp[hk]
    ·have:¬k<out.length:=by omega
     simp[hk,this]
   rw[←hb];simp only[lα,lι,List.drop_eq_nil_iff,lμ];exact h
 cases q<;>simp only[kq]at h ⊢ <;>first
  |exact h
  |exact key h
  |(
    unfold Kq at h ⊢
    split at h
    ·exact key h
    ·exact key h
    ·simp at h)
theorem close_congr {hp hp2:List Ob}:∀{n:Nat} {ws acc:List Nat},(∀id∈close hp n ws acc,hp2[id]?=hp[id]?)→close hp2 n ws acc=close hp n ws acc
 |0,ws,acc,h=>by simp only[close]
 |n+1,[],acc,h=>by simp only[close]
 |n+1,id::ws,acc,h=>by
  simp only[close]at h ⊢
  split
  ·rename_i hc;rw[if_pos hc]at h;exact close_congr h
  ·rename_i hc;rw[if_neg hc]at h;have hid:hp2[id]?=hp[id]?:=by
    refine h id ?_;have hni:acc.Nodup→True:=fun _=>trivial
    obtain⟨r,hr⟩:=close_prefix (hp:=hp) n (gR (hp.getD id .dead)++ws) (acc++[id]);rw[←hr];simp
   have hob:hp2.getD id .dead=hp.getD id .dead:=by simp[lρ,hid]
   rw[hob];exact close_congr h
where
 close_prefix {hp:List Ob}:∀(n:Nat) (ws acc:List Nat),acc <+: close hp n ws acc
  |0,ws,acc=>by simp only[close];exact List.prefix_refl _
  |n+1,[],acc=>by simp only[close];exact List.prefix_refl _
  |n+1,id::ws,acc=>by
   simp only[close];split
   ·exact close_prefix n ws acc
   ·exact(List.prefix_append _ _).trans (close_prefix n _ _)
theorem lq {q:O}{vs:List D}{hp hp2:List Ob}(h:∀id∈bg q vs hp,hp2[id]?=hp[id]?):bg q vs hp2=bg q vs hp:=by
 cases q<;>simp only[bg]at h ⊢ <;>exact close_congr h
theorem Cw {x:dE}{tm tm2:Tm}(h:∀t∈fU x,get tm2 t=get tm t):x.as.map (ev tm2)=x.as.map (ev tm):=by
 apply List.map_congr_left;intro y hy;cases y with
 |t n=>
  simp only[ev];refine h n ?_;simp only[fU,mη,List.mem_filterMap];exact .inl ⟨.t n,hy,rfl⟩
 |_=>rfl
theorem CG {x:dE}{tm tm2:Tm}(h:∀t∈fU x,get tm2 t=get tm t):cp x tm2=cp x tm:=by
 unfold cp;cases hg:x.gd with
 |none=>rfl
 |some p=>
  obtain⟨g,want⟩:=p;simp only;rw[h g (by simp[fU,hg])]
theorem M2 {ids:List Nat}{hp hp2:List Ob}(h:∀id∈ids,hp2[id]?=hp[id]?):ids.map (aN hp2)=ids.map (aN hp):=by
 apply List.map_congr_left;intro id hid;simp[aN,lρ,h id hid]
structure Vz (x:dE)(st st1:St)(f:df)(st2 st2':St):Prop where
 tm1:∀t,x.dst=some t→get st2'.tm t=get st1.tm t
 tm0:∀t,x.dst≠some t→get st2'.tm t=get st2.tm t
 hp1:∀id,wr f id=true→st2'.hp[id]?=st1.hp[id]?
 hp0:∀id,wr f id=false→st2'.hp[id]?=st2.hp[id]?
 len1:f.grow=true→st2'.hp.length=st1.hp.length
 len0:f.grow=false→st2'.hp.length=st2.hp.length
theorem Do {d:Option Nat}{v:D}{tm tm2:Tm}{t:Nat}(h:d=some t):get (put d v tm2) t=get (put d v tm) t:=by
 rw[pN,pN,if_pos h,if_pos h]
theorem mu {call:aC}{m:Nat}{ids:List Nat}{obs:List Ob}{len len':Nat}{d:D}{ups:List (Nat×Ob)}{f:Nat}{args:List D}(h:hZ call f args m ids obs len=some (d,ups,[])):hZ call f args m ids obs len'=some (d,ups,[]):=by
 unfold hZ at h ⊢
 split at h
 ·simp at h
 ·rename_i r out hc;obtain⟨hle,h⟩:=fD h;simp only[hc,hle,cond_true];simp only[lα,lι,List.drop_eq_nil_iff,lμ]at h;have hle2:out.length≤m:=h.2.2;have hb:back m len ids out.length=back m len' ids out.length:=by
   funext k
   unfold back;rw[blt_eq,blt_eq];by_cases hk:k<m
   ·simp[hk]
   ·have:¬k<out.length:=by omega
    simp[hk,this]
  rw[←hb];simp only[lα,lι,List.drop_eq_nil_iff,lμ];exact h
theorem oy {call:aC}{ids:List Nat}{obs:List Ob}{len len':Nat}{d:D}{ups:List (Nat×Ob)}{f:Nat}{args:List D}(h:dQ call f args ids obs len=some (d,ups,[])):dQ call f args ids obs len'=some (d,ups,[]):=by
 rw[yh]at h ⊢
 exact mu h
theorem Kv {call:aC}{base:Nat}{q:O}{k:Nat}{vs:List D}{ids:List Nat}{obs:List Ob}{len len':Nat}{d:D}{ups:List (Nat×Ob)}(h:ra call base q k vs ids obs len=some (d,ups,[])):ra call base q k vs ids obs len'=some (d,ups,[]):=by
 cases hq:cu q
 ·rw[uV hq]at h ⊢
  exact Gi h
 ·cases q<;>first
   |(simp[cu]at hq;done)
   |(
     simp only[ra,mj]at h ⊢
     revert h
     cases Mv.mv _<;>intro h
     ·exact oy h
     ·exact mu h)
   |(
     simp only[ra,ve]at h ⊢
     split at h
     ·revert h
      cases Mv.mv _<;>intro h
      ·exact oy h
      ·cases h
     ·unfold mj at h ⊢
      revert h
      cases Mv.mv _<;>intro h
      ·exact oy h
      ·exact mu h
     ·cases h)
   |exact Gi (call:=call) (q:= .clone) (len:=len) (len':=len') h
theorem we {f:Nat}{raw:Bool}{vs:List D}{hp hp2:List Ob}(h:∀id∈cm (.call f raw) vs hp,hp2[id]?=hp[id]?):cm (.call f raw) vs hp2=cm (.call f raw) vs hp:=by
 simp only[cm,oH]at h ⊢
 revert h
 cases Mv.mv f<;>intro h
 ·exact close_congr h
 ·simp only[cond_true]at h ⊢
  have hd:((iM (dids.didsL vs) []).flatMap fun i=>gR (aN hp2 i))=(iM (dids.didsL vs) []).flatMap fun i=>gR (aN hp i):=by
   have key:∀i∈iM (dids.didsL vs) [],aN hp2 i=aN hp i:=fun i hi=>by
    have:=h i ((close_congr.close_prefix _ _ _).subset hi);simp[aN,lρ,this]
   clear h;generalize iM (dids.didsL vs) []=l at key ⊢
   induction l with
   |nil=>rfl
   |cons a r ih=>
    simp only[List.flatMap_cons];rw[key a (mι ..),ih fun i hi=>key i (mκ _ hi)]
  rw[hd];exact close_congr h
theorem C2 {vs:List D}{hp hp2:List Ob}(h:∀id∈nG vs hp,hp2[id]?=hp[id]?):nG vs hp2=nG vs hp:=by
 unfold nG at h ⊢
 split at h
 ·rename_i f caps args;revert h;cases hm:Mv.mv (Bf f)<;>intro h
  ·exact lq (q:= .callv) h
  ·exact we (f:=Bf f) (raw:=false) h
 ·exact lq (q:= .callv) h
theorem C1 {q:O}{vs:List D}{hp hp2:List Ob}(h:∀id∈cm q vs hp,hp2[id]?=hp[id]?):cm q vs hp2=cm q vs hp:=by
 cases hq:cu q
 ·rw[j4 hq]at h;rw[j4 hq,j4 hq];exact lq h
 ·cases q<;>first
   |(simp[cu]at hq;done)
   |exact we h
   |exact C2 h
   |exact lq (q:= .clone) h
theorem m6 {call:aC}{base:Nat}{x:dE}{st st1:St}{f:df}(h:IN call base x st=some (st1,f)){st2:St}(ha:∀t∈fU x,get st2.tm t=get st.tm t)(hb:∀id,id∈f.rs∨id∈f.ws→st2.hp[id]?=st.hp[id]?)(hc:f.grow=true→st2.hp.length=st.hp.length):
  ∃st2' f',IN call base x st2=some (st2',f')∧Vz x st st1 f st2 st2':=by
 unfold IN at h ⊢
 rw[CG ha];split at h
 ·simp at h
 ·rename_i hg;unfold nr at h;simp only at h;obtain⟨hmk,h⟩:=fD h;split at h
  ·simp at h
  ·rename_i d ups new hact;simp only[lα,lι]at h;obtain⟨rfl,rfl⟩:=h;simp only at hb hc;have hids:∀id∈cm x.op (x.as.map (ev st.tm)) st.hp,st2.hp[id]?=st.hp[id]?:=fun id hid=>hb id (.inl (by cases cb x.op<;>simp[hid]))
   have hn:cm x.op (x.as.map (ev st2.tm)) st2.hp=cm x.op (x.as.map (ev st.tm)) st.hp:=by rw[Cw ha];exact C1 hids
   have hmk2:(!(cb x.op)||bV (aN st2.hp (base+x.k)))=true:=by
    cases hm:cb x.op with
    |false=>rfl
    |true=>
     rw[hm]at hmk;have:aN st2.hp (base+x.k)=aN st.hp (base+x.k):=by
      simp only[aN,lρ];rw[hb (base+x.k) (.inl (by rw[hm];simp))]
     rw[this];exact hmk
   have hact2:ra call base x.op x.k (x.as.map (ev st2.tm)) (cm x.op (x.as.map (ev st2.tm)) st2.hp) ((cm x.op (x.as.map (ev st2.tm)) st2.hp).map (aN st2.hp)) st2.hp.length=some (d,ups,new):=by
    rw[hn,Cw ha,M2 hids];cases new with
    |nil=>exact Kv hact
    |cons o r=>rw[hc rfl];exact hact
   refine⟨⟨put x.dst d st2.tm,grow (aj st2.hp ups) new⟩,_,by unfold nr;simp only[hmk2,cond_true,hact2];rfl,?_⟩
   have hle:∀hp:List Ob,(grow (aj hp ups) new).length=hp.length+new.length:=fun hp=>by simp[gB,bn]
   have hwr:∀id,wr ⟨bif cb x.op then(base+x.k)::cm x.op (x.as.map (ev st.tm)) st.hp else cm x.op (x.as.map (ev st.tm)) st.hp,jy (cm x.op (x.as.map (ev st.tm)) st.hp) st.hp ups,!new.isEmpty,st.hp.length⟩ id=true→(grow (aj st2.hp ups) new)[id]?=(grow (aj st.hp ups) new)[id]?:=by
    intro id hw;rw[wr_iff]at hw;simp only at hw;rw[gB,gB];cases new with
    |nil=>
     simp only[lχ];have hw':=hw.resolve_right (by simp);exact ly (hb id (.inr hw'))
    |cons o r=>
     have hl:=hc rfl;rcases lν id st.hp.length with h1|h1
     ·have hw':=hw.resolve_right (by simp;omega);rw[lη (by rw[bn];omega),lη (by rw[bn];exact h1)];exact ly (hb id (.inr hw'))
     ·rw[lξ (by rw[bn];omega),lξ (by rw[bn];exact h1),bn,bn,hl]
   refine⟨fun t ht=>Do ht,fun t ht=>by simp only;rw[pN,if_neg ht],hwr,fun id hw=>?_,fun hg'=>?_,fun hg'=>?_⟩
   ·have hw':¬(id∈jy (cm x.op (x.as.map (ev st.tm)) st.hp) st.hp ups∨((!new.isEmpty)=true∧st.hp.length≤id)):=fun hh=>by
     have:=wr_iff (f:=⟨bif cb x.op then(base+x.k)::cm x.op (x.as.map (ev st.tm)) st.hp else cm x.op (x.as.map (ev st.tm)) st.hp,jy (cm x.op (x.as.map (ev st.tm)) st.hp) st.hp ups,!new.isEmpty,st.hp.length⟩).2 hh
     rw[hw]at this;simp at this
    simp only[not_or]at hw';simp only[gB];cases new with
    |nil=>rw[lχ];exact rY (hids id) hw'.1
    |cons o r=>
     have hl:=hc rfl;have:id<st.hp.length:=by
      have:=hw'.2;simp at this;omega
     rw[lη (by rw[bn];omega)];exact rY (hids id) hw'.1
   ·simp only[hle];rw[hc hg']
   ·simp only[hle];have:new=[]:=by simpa using hg'
    simp[this]
 ·rename_i hg;simp only[lα,lι]at h;obtain⟨rfl,rfl⟩:=h;exact⟨_,_,rfl,fun t ht=>Do ht,fun t ht=>by simp only;rw[pN,if_neg ht],by intro id hw;simp[wr]at hw,fun _ _=>rfl,by intro hh;simp at hh,fun _=>rfl⟩
theorem Mp {call:aC}{base:Nat}{x:dE}{st st1:St}{f:df}(h:IN call base x st=some (st1,f))(hh:cR x.op=false):f.rs=[]∧f.ws=[]∧f.grow=false:=by
 unfold IN at h;split at h
 ·simp at h
 ·unfold nr at h;simp only at h;obtain⟨hmk,h⟩:=fD h;split at h
  ·simp at h
  ·rename_i d ups new hact;simp only[lα,lι]at h;obtain⟨rfl,rfl⟩:=h;have hnc:cu x.op=false:=by
    cases hq:x.op<;>rw[hq]at hh<;>simp[cR]at hh<;>rfl
   rw[uV hnc]at hact;have hval:∀{e:D},val e=some (d,ups,new)→ups=[]∧new=[]:=fun he=>(jx he).2
   have hvalP:∀{e:Option Da},jb e=some (d,ups,new)→ups=[]∧new=[]:=fun he=>by obtain⟨_,_,_,h1,h2⟩:=DJ he;exact⟨h1,h2⟩
   have key:ups=[]∧new=[]:=by
    clear hnc;generalize cm x.op (x.as.map (ev st.tm)) st.hp=ids0 at hact;generalize x.as.map (ev st.tm)=vs at hact;generalize x.op=q at hact hh;cases q<;>simp only[cR,reduceCtorEq,Bool.true_eq_false]at hh;all_goals simp only[kq]at hact
    all_goals first
     |(simp at hact;done)
     |(unfold Ti at hact)
     |(unfold xV at hact)
     |(unfold oo at hact)
     |(unfold oq at hact;simp only[cond_eq_ite]at hact)
     |(unfold xw at hact)
     |(unfold Gb at hact)
     |(unfold Gc at hact)
     |(unfold uU at hact)
     |(unfold TC at hact)
     |(unfold Gd at hact)
     |(unfold Gf at hact)
     |(unfold BW at hact)
     |(unfold BV at hact)
     |(unfold Es at hact;simp only[cond_eq_ite]at hact)
     |(unfold la at hact)
     |(unfold Gg at hact)
     |(unfold Ia at hact;simp only[cond_eq_ite]at hact)
     |(unfold gL at hact;rw[Bool.or_eq_false_iff]at hh;obtain⟨rfl,hh⟩:=hh;simp only[hh,Bool.false_and,cond_eq_ite,Bool.false_eq_true,if_false]at hact)
     |(unfold RC at hact)
     |(unfold BR at hact)
     |(unfold Ge at hact;simp only[cond_eq_ite]at hact)
     |(unfold BS at hact;simp only[cond_eq_ite]at hact)
     |(unfold Ov at hact)
     |(unfold Er at hact)
     |(unfold Kr at hact)
     |(unfold BU at hact)
     |(unfold BT at hact)
     |(unfold mg at hact;simp only[cond_eq_ite]at hact)
     |(unfold Kt at hact)
     |(unfold RD at hact)
     |(unfold zH at hact;simp only[cond_eq_ite]at hact)
     |skip
    all_goals (repeat' split at hact)
    all_goals first
     |(simp at hact;done)
     |exact hval hact
     |exact hvalP hact
   obtain⟨rfl,rfl⟩:=key;have hm:cb x.op=false:=by
    cases hq:x.op<;>rw[hq]at hh<;>simp[cR]at hh<;>rfl
   have hn:cm x.op (x.as.map (ev st.tm)) st.hp=[]:=by
    rw[j4 hnc];clear hnc;cases hq:x.op<;>rw[hq]at hh<;>simp only[cR,reduceCtorEq,Bool.true_eq_false]at hh<;>first
     |rfl
     |(simp only[bg,hh,cond_false])
   rw[hm,hn];exact⟨rfl,rfl,rfl⟩
 ·simp only[lα,lι]at h;obtain⟨_,rfl⟩:=h;exact⟨rfl,rfl,rfl⟩
end Go.Ab
end
section
namespace Go.Ab
open Go
variable [Letters] [Mv]
def j9 (o:Oper):List Nat:=(o.after.toList.filter hO).map (·.on)
theorem pE:∀{l:List Oper} {n:Nat},gc l n=true→∀(j:Nat) o,l[j]?=some o→∀d∈j9 o,d<n+j
 |[],n,h,j,o,ho,d,hd=>by simp at ho
 |x::r,n,h,j,o,ho,d,hd=>by
  simp only[gc,lβ,mγ]at h;cases j with
  |zero=>
   simp at ho;subst ho;simp only[j9,List.mem_map,List.mem_filter]at hd;obtain⟨e,⟨he,hb⟩,rfl⟩:=hd;have:=h.1 e he;rw[hb]at this;simpa[blt_eq]using this
  |succ j=>
   have:=pE h.2 j o (by simpa using ho) d hd;omega
theorem Gj:∀(l:List Oper) (acc:List (List Nat)),∃r,xy l acc=acc++r∧r.length=l.length∧
  ∀(j:Nat) o,l[j]?=some o→∀x∈(xy l acc).getD (acc.length+j) [],x∈j9 o∨∃d∈j9 o,d<acc.length+j∧x∈(xy l acc).getD d []
 |[],acc=>⟨[],by simp[xy],rfl,by intro j o h;simp at h⟩
 |o::r,acc=>by
  simp only[xy];obtain⟨q,h1,h2,h3⟩:=Gj r (acc++[(((o.after.toList.filter hO).map (·.on))++((o.after.toList.filter hO).map (·.on)).flatMap fun d=>acc.getD d []).eraseDups]);refine⟨_::q,by rw[h1];simp;rfl,by simp[h2],fun j o' ho x hx=>?_⟩
  cases j with
  |zero=>
   simp at ho;subst ho;rw[h1]at hx;rw[h1];simp only[Nat.add_zero,lρ,mζ,lξ (Nat.le_refl _),Nat.sub_self,List.singleton_append,List.getElem?_cons_zero,Option.getD_some,List.mem_eraseDups,mη,List.mem_flatMap]at hx;rcases hx with hx|⟨d,hd,hx⟩
   ·exact .inl hx
   ·have hlt:d<acc.length:=by
     rcases lν d acc.length with h|h
     ·exact h
     ·simp[lδ h]at hx
    refine .inr ⟨d,hd,by simpa using hlt,?_⟩
    rw[lρ,mζ,lη hlt];exact hx
  |succ j=>
   have:=h3 j o' (by simpa using ho) x (by
    have e:(acc++[(((o.after.toList.filter hO).map (·.on))++((o.after.toList.filter hO).map (·.on)).flatMap fun d=>acc.getD d []).eraseDups]).length+j=acc.length+(j+1):=by simp;omega
    rw[e];exact hx)
   rcases this with h|⟨d,hd,hlt,hx⟩
   ·exact .inl h
   ·exact .inr ⟨d,hd,by simp at hlt;omega,hx⟩
theorem wz {xs:List dE}{an:List Nat}{x:dE}{n:Nat}:∀{l:List Nat} {ps:List (Nat×Nat)},ua xs an x n l=some ps→∀i∈l,i∈an∨∃y,xs[i]?=some y∧qC y x=true∧((cR y.op&&cR x.op)=true→(i,n)∈ps)
 |[],ps,h,i,hi=>by simp at hi
 |k::r,ps,h,i,hi=>by
  simp only[ua]at h;split at h
  ·simp at h
  ·rename_i qs hqs;have ih:=wz hqs;cases hc:an.contains k with
   |true=>
    rw[hc]at h;simp only[cond_true,lα]at h;subst h;rcases lω.1 hi with rfl|hi
    ·exact .inl (by simpa using hc)
    ·exact ih i hi
   |false=>
    rw[hc]at h;simp only[cond_false]at h;split at h
    ·simp at h
    ·rename_i y hy;obtain⟨htm,h⟩:=fD h;cases hh:(cR y.op&&cR x.op)with
     |true=>
      rw[hh]at h;simp only[cond_true,lα]at h;subst h;rcases lω.1 hi with rfl|hi
      ·exact .inr ⟨y,hy,htm,fun _=>by simp⟩
      ·rcases ih i hi with h|⟨y',h1,h2,h3⟩
       ·exact .inl h
       ·exact .inr ⟨y',h1,h2,fun hq=>mκ _ (h3 hq)⟩
     |false=>
      rw[hh]at h;simp only[cond_false,lα]at h;subst h;rcases lω.1 hi with rfl|hi
      ·exact .inr ⟨y,hy,htm,fun hq=>by rw[hh]at hq;simp at hq⟩
      ·exact ih i hi
theorem sG {xs:List dE}{an:List (List Nat)}:∀{l:List Nat} {ps:List (Nat×Nat)},j7 xs an l=some ps→∀n∈l,∃x a,xs[n]?=some x∧an[n]?=some a∧∀i,i<n→i∈a∨∃y,xs[i]?=some y∧qC y x=true∧((cR y.op&&cR x.op)=true→(i,n)∈ps)
 |[],ps,h,n,hn=>by simp at hn
 |k::r,ps,h,n,hn=>by
  simp only[j7]at h;split at h
  ·rename_i x a hx ha;split at h
   ·rename_i p1 p2 h1 h2;simp only[lα]at h;subst h;rcases lω.1 hn with rfl|hn
    ·refine⟨x,a,hx,ha,fun i hi=>?_⟩
     rcases wz h1 i (by simpa using hi)with h|⟨y,g1,g2,g3⟩
     ·exact .inl h
     ·exact .inr ⟨y,g1,g2,fun hq=>List.mem_append_left _ (g3 hq)⟩
    ·obtain⟨x',a',g1,g2,g3⟩:=sG h2 n hn;refine⟨x',a',g1,g2,fun i hi=>?_⟩
     rcases g3 i hi with h|⟨y,q1,q2,q3⟩
     ·exact .inl h
     ·exact .inr ⟨y,q1,q2,fun hq=>List.mem_append_right _ (q3 hq)⟩
   ·simp at h
  ·simp at h
theorem sc {fs:List df}:∀{ps:List (Nat×Nat)},eg fs ps=true→∀i j,(i,j)∈ps→jk (fs.getD i sv) (fs.getD j sv)=true
 |[],h,i,j,hm=>by simp at hm
 |(p,q)::r,h,i,j,hm=>by
  simp only[eg]at h;split at h
  ·rename_i a b ha hb;rw[lβ]at h;rcases lω.1 hm with he|hm
   ·simp only[lι]at he;obtain⟨rfl,rfl⟩:=he;simp only[lρ,ha,hb,Option.getD_some];exact h.1
   ·exact sc h.2 i j hm
  ·simp at h
structure JF (x y:dE)(f g:df):Prop where
 t1:∀d,x.dst=some d→d∉fU y
 t2:∀d,x.dst=some d→y.dst≠some d
 t3:∀d,y.dst=some d→d∉fU x
 r1:∀id,id∈g.rs∨id∈g.ws→wr f id=false
 r2:∀id,id∈f.rs∨id∈f.ws→wr g id=false
 gg:¬(f.grow=true∧g.grow=true)
theorem FZ {x y:dE}(h:qC x y=true):(∀d,x.dst=some d→d∉fU y)∧(∀d,x.dst=some d→y.dst≠some d)∧(∀d,y.dst=some d→d∉fU x):=by
 unfold qC at h;rw[lβ]at h;refine⟨fun d hd=>?_,fun d hd=>?_,fun d hd=>?_⟩
 ·have:=h.1;rw[hd]at this;simp only[lβ]at this;simpa using this.1
 ·have:=h.1;rw[hd]at this;simp only[lβ]at this;intro he;rw[he]at this;simp at this
 ·have:=h.2;rw[hd]at this;simpa using this
theorem Kz {f g:df}(h:jk f g=true):(∀id,id∈g.rs∨id∈g.ws→wr f id=false)∧(∀id,id∈f.rs∨id∈f.ws→wr g id=false)∧¬(f.grow=true∧g.grow=true):=by
 unfold jk at h;simp only[lβ,mγ]at h;obtain⟨⟨⟨⟨h1,h2⟩,h3⟩,h4⟩,h5⟩:=h;refine⟨fun id hid=>?_,fun id hid=>?_,fun⟨a,b⟩=>by rw[a,b]at h5;simp at h5⟩
 ·rcases hid with hid|hid
  ·simpa using h1 id hid
  ·simpa using h2 id hid
 ·rcases hid with hid|hid
  ·simpa using h3 id hid
  ·simpa using h4 id hid
structure og (call:aC)(base:Nat)(ops:List Oper)(xs:List dE)(an:List (List Nat))(σ:Nat→St)(F:Nat→df):Prop where
 len:ops.length=xs.length
 step:∀(i:Nat) x,xs[i]?=some x→IN call base x (σ i)=some (σ (i+1),F i)
 back:∀(j:Nat) o,ops[j]?=some o→∀d∈j9 o,d<j
 anc:∀(j:Nat) o,ops[j]?=some o→∀x∈an.getD j [],x∈j9 o∨∃d∈j9 o,d<j∧x∈an.getD d []
 pair:∀(i j:Nat) x y,i<j→xs[i]?=some x→xs[j]?=some y→i∈an.getD j []∨JF x y (F i) (F j)
theorem Qq {call:aC}{base:Nat}{ops:List Oper}{xs:List dE}{ps:List (Nat×Nat)}{st st':St}{fs:List df}(hl:ops.length=xs.length)(hb:gc ops 0=true)(hp:j7 xs (xy ops []) (List.range xs.length)=some ps)(hev:cU call base xs st []=some (st',fs))(ha:eg fs ps=true):
  ∃σ F,σ 0=st∧σ xs.length=st'∧og call base ops xs (xy ops []) σ F:=by
 obtain⟨σ,fl,h1,h2,h3,h4,h5⟩:=vt hev;simp at h3;subst h3;refine⟨σ,fun i=>fs.getD i sv,h1,h2,hl,h5,fun j o ho d hd=>by have:=pE hb j o ho d hd;omega,?_,?_⟩
 ·obtain⟨r,g1,g2,g3⟩:=Gj ops [];intro j o ho x hx;have:=g3 j o ho x (by simpa using hx);simpa using this
 ·intro i j x y hij hx hy;have hj:j<xs.length:=by
   rcases lν j xs.length with h|h
   ·exact h
   ·simp[lδ h]at hy
  obtain⟨y',a,q1,q2,q3⟩:=sG hp j (by simpa using hj);rw[hy]at q1;simp at q1;subst q1;rcases q3 i hij with h|⟨x',p1,p2,p3⟩
  ·left;rw[lρ,q2];exact h
  ·rw[hx]at p1;simp at p1;subst p1;obtain⟨t1,t2,t3⟩:=FZ p2;right;cases hh:(cR x.op&&cR y.op)with
   |true=>
    obtain⟨r1,r2,gg⟩:=Kz (sc ha i j (p3 hh));exact⟨t1,t2,t3,r1,r2,gg⟩
   |false=>
    have idle:∀{k:Nat} {z:dE},xs[k]?=some z→cR z.op=false→(fs.getD k sv).rs=[]∧(fs.getD k sv).ws=[]∧(fs.getD k sv).grow=false:=fun hz hh=>Mp (h5 _ _ hz) hh
    rw[Bool.and_eq_false_iff]at hh;rcases hh with hh|hh
    ·obtain⟨a1,a2,a3⟩:=idle hx hh;exact⟨t1,t2,t3,fun id _=>by simp only[wr,a2,a3];simp,fun id hid=>by simp only[a1,a2]at hid;simp at hid,fun hg=>by simp only[a3]at hg;simp at hg⟩
    ·obtain⟨a1,a2,a3⟩:=idle hy hh;exact⟨t1,t2,t3,fun id hid=>by simp only[a1,a2]at hid;simp at hid,fun id _=>by simp only[wr,a2,a3];simp,fun hg=>by simp only[a3]at hg;simp at hg⟩
section
variable {call:aC} {base:Nat} {ops:List Oper} {xs:List dE} {an:List (List Nat)} {σ:Nat→St} {F:Nat→df}
def UK (xs:List dE)(j t:Nat):Prop:=∃x,xs[j]?=some x∧x.dst=some t
def UI (xs:List dE)(F:Nat→df)(j id:Nat):Prop:=j<xs.length∧wr (F j) id=true
def UJ (xs:List dE)(F:Nat→df)(j:Nat):Prop:=j<xs.length∧(F j).grow=true
theorem og.stillT (p:og call base ops xs an σ F){t:Nat}{m:Nat}:∀(k:Nat),m+k≤xs.length→(∀j,m≤j→j<m+k→¬UK xs j t)→get (σ (m+k)).tm t=get (σ m).tm t
 |0,_,_=>rfl
 |k+1,hle,h=>by
  rw[←p.stillT k (by omega) fun j h1 h2=>h j h1 (by omega)];have hx:xs[m+k]?=some xs[m+k]:=lε (by omega);obtain⟨st2',f',h1,h2⟩:=m6 (p.step _ _ hx) (st2:=σ (m+k)) (fun _ _=>rfl) (fun _ _=>rfl) (fun _=>rfl);rw[p.step _ _ hx]at h1;simp only[lα,lι]at h1;obtain⟨rfl,rfl⟩:=h1;exact h2.tm0 t fun e=>h (m+k) (by omega) (by omega) ⟨_,hx,e⟩
theorem og.stillH (p:og call base ops xs an σ F){id:Nat}{m:Nat}:∀(k:Nat),m+k≤xs.length→(∀j,m≤j→j<m+k→¬UI xs F j id)→(σ (m+k)).hp[id]?=(σ m).hp[id]?
 |0,_,_=>rfl
 |k+1,hle,h=>by
  rw[←p.stillH k (by omega) fun j h1 h2=>h j h1 (by omega)];have hx:xs[m+k]?=some xs[m+k]:=lε (by omega);obtain⟨st2',f',h1,h2⟩:=m6 (p.step _ _ hx) (st2:=σ (m+k)) (fun _ _=>rfl) (fun _ _=>rfl) (fun _=>rfl);rw[p.step _ _ hx]at h1;simp only[lα,lι]at h1;obtain⟨rfl,rfl⟩:=h1;refine h2.hp0 id ?_;cases hw:wr (F (m+k)) id with
  |false=>rfl
  |true=>exact absurd ⟨by omega,hw⟩ (h (m+k) (by omega) (by omega))
theorem og.stillL (p:og call base ops xs an σ F){m:Nat}:∀(k:Nat),m+k≤xs.length→(∀j,m≤j→j<m+k→¬UJ xs F j)→(σ (m+k)).hp.length=(σ m).hp.length
 |0,_,_=>rfl
 |k+1,hle,h=>by
  rw[←p.stillL k (by omega) fun j h1 h2=>h j h1 (by omega)];have hx:xs[m+k]?=some xs[m+k]:=lε (by omega);obtain⟨st2',f',h1,h2⟩:=m6 (p.step _ _ hx) (st2:=σ (m+k)) (fun _ _=>rfl) (fun _ _=>rfl) (fun _=>rfl);rw[p.step _ _ hx]at h1;simp only[lα,lι]at h1;obtain⟨rfl,rfl⟩:=h1;refine h2.len0 ?_;cases hw:(F (m+k)).grow with
  |false=>rfl
  |true=>exact absurd ⟨by omega,hw⟩ (h (m+k) (by omega) (by omega))
structure QJ (xs:List dE)(σ:Nat→St)(F:Nat→df)(X:Nat→Prop)(st:St):Prop where
 T:∀m,m≤xs.length→∀t,(∀j,j<m→UK xs j t→X j)→(∀j,m≤j→UK xs j t→¬X j)→get st.tm t=get (σ m).tm t
 H:∀m,m≤xs.length→∀id,(∀j,j<m→UI xs F j id→X j)→(∀j,m≤j→UI xs F j id→¬X j)→st.hp[id]?=(σ m).hp[id]?
 L:∀m,m≤xs.length→(∀j,j<m→UJ xs F j→X j)→(∀j,m≤j→UJ xs F j→¬X j)→st.hp.length=(σ m).hp.length
theorem og.start (p:og call base ops xs an σ F):QJ xs σ F (fun _=>False) (σ 0) where
 T m hm t h1 _:=by
  have:=p.stillT (m:=0) (t:=t) m (by omega) (fun j _ hj=>fun hw=>h1 j (by omega) hw);simpa using this.symm
 H m hm id h1 _:=by
  have:=p.stillH (m:=0) (id:=id) m (by omega) (fun j _ hj=>fun hw=>h1 j (by omega) hw);simpa using this.symm
 L m hm h1 _:=by
  have:=p.stillL (m:=0) m (by omega) (fun j _ hj=>fun hw=>h1 j (by omega) hw);simpa using this.symm
def NW (ops:List Oper)(X:Nat→Prop):Prop:=∀(j:Nat) o,ops[j]?=some o→X j→∀d∈j9 o,X d
theorem og.anc_in (p:og call base ops xs an σ F){X:Nat→Prop}(hd:NW ops X):∀(j:Nat),(∀o,ops[j]?=some o→∀d∈j9 o,X d)→j<ops.length→∀x∈an.getD j [],X x:=by
 intro j;induction j using Nat.strongRecOn with
 |_ j ih=>
  intro hj hlt x hx;have ho:ops[j]?=some ops[j]:=lε hlt;rcases p.anc j _ ho x hx with h|⟨d,hd1,hd2,hx⟩
  ·exact hj _ ho x h
  ·exact ih d hd2 (fun o' ho'=>hd d o' ho' (hj _ ho d hd1)) (by omega) x hx
theorem og.more (p:og call base ops xs an σ F){X:Nat→Prop}{st:St}(hd:NW ops X)(inv:QJ xs σ F X st){i:Nat}{x:dE}(hx:xs[i]?=some x)(hni:¬X i)(hr:∀o,ops[i]?=some o→∀d∈j9 o,X d):
  ∃st' f',IN call base x st=some (st',f')∧QJ xs σ F (fun j=>X j∨j=i) st':=by
 have hlt:i<xs.length:=by
  rcases lν i xs.length with h|h
  ·exact h
  ·simp[lδ h]at hx
 have hanc:∀k∈an.getD i [],X k:=p.anc_in hd i hr (by rw[p.len];exact hlt)
 -- what was run and is not jk from i comes ahead of it
 have before:∀j y,j<i→xs[j]?=some y→X j∨JF y x (F j) (F i):=fun j y hj hy=>(p.pair j i y x hj hy hx).imp_left (hanc j)
 have behind:∀j y,i<j→xs[j]?=some y→X j→JF x y (F i) (F j):=fun j y hj hy hX=>(p.pair i j x y hj hx hy).resolve_left fun h=>
  hni (p.anc_in hd j (fun o ho=>hd j o ho hX) (by
   rw[p.len];rcases lν j xs.length with h|h
   ·exact h
   ·simp[lδ h]at hy) i h)
 have getx:∀j,j<xs.length→xs[j]?=some (xs.getD j x):=fun j hj=>by rw[lρ,lε hj];rfl
 obtain⟨st',f',h1,h2⟩:=m6 (p.step i x hx) (st2:=st)
  (fun t ht=>inv.T i (by omega) t
   (fun j hj ⟨y,hy,hdt⟩=>(before j y hj hy).resolve_right fun ap=>ap.t1 t hdt ht)
   (fun j hj ⟨y,hy,hdt⟩ hX=>by
    rcases Nat.eq_or_lt_of_le hj with rfl|hj
    ·exact hni hX
    ·exact(behind j y hj hy hX).t3 t hdt ht))
  (fun id hid=>inv.H i (by omega) id
   (fun j hj ⟨hl,hw⟩=>(before j _ hj (getx j hl)).resolve_right fun ap=>by have:=ap.r1 id hid;rw[hw]at this;simp at this)
   (fun j hj ⟨hl,hw⟩ hX=>by
    rcases Nat.eq_or_lt_of_le hj with rfl|hj
    ·exact hni hX
    ·have:=(behind j _ hj (getx j hl) hX).r2 id hid;rw[hw]at this;simp at this))
  (fun hg=>inv.L i (by omega)
   (fun j hj ⟨hl,hw⟩=>(before j _ hj (getx j hl)).resolve_right fun ap=>ap.gg ⟨hw,hg⟩)
   (fun j hj ⟨hl,hw⟩ hX=>by
    rcases Nat.eq_or_lt_of_le hj with rfl|hj
    ·exact hni hX
    ·exact(behind j _ hj (getx j hl) hX).gg ⟨hg,hw⟩))
 refine⟨st',f',h1,⟨fun m hm t k1 k2=>?_,fun m hm id k1 k2=>?_,fun m hm k1 k2=>?_⟩⟩
 ·by_cases hdt:x.dst=some t
  ·have him:i<m:=by
    rcases lν i m with h|h
    ·exact h
    ·exact absurd (.inr rfl) (k2 i h ⟨x,hx,hdt⟩)
   rw[h2.tm1 t hdt];have:=p.stillT (t:=t) (m:=i+1) (m - (i+1)) (by omega) (fun j hj1 hj2=>fun⟨y,hy,hyt⟩=>by
    have hX:=(k1 j (by omega) ⟨y,hy,hyt⟩).resolve_right (by omega);exact(behind j y (by omega) hy hX).t2 t hdt hyt)
   rw[show i+1+(m - (i+1))=m by omega]at this;exact this.symm
  ·rw[h2.tm0 t hdt];have hne:∀j,UK xs j t→j≠i:=by
    rintro j ⟨y,hy,hyt⟩ rfl
    rw[hx]at hy;simp at hy;subst hy;exact hdt hyt
   exact inv.T m hm t (fun j hj hw=>(k1 j hj hw).resolve_right (hne j hw)) (fun j hj hw hX=>k2 j hj hw (.inl hX))
 ·cases hwi:wr (F i) id with
  |true=>
   have him:i<m:=by
    rcases lν i m with h|h
    ·exact h
    ·exact absurd (.inr rfl) (k2 i h ⟨hlt,hwi⟩)
   rw[h2.hp1 id hwi];have:=p.stillH (id:=id) (m:=i+1) (m - (i+1)) (by omega) (fun j hj1 hj2=>fun⟨hl,hw⟩=>by
    have hX:=(k1 j (by omega) ⟨hl,hw⟩).resolve_right (by omega);have ap:=behind j _ (by omega) (getx j hl) hX;rw[wr_iff]at hwi hw;rcases hwi with h|⟨hg,hlim⟩
    ·have:=ap.r2 id (.inr h);rw[wr_iff.2 hw]at this;simp at this
    ·rcases hw with h|⟨hg',_⟩
     ·have:=ap.r1 id (.inr h);have hh:wr (F i) id=true:=wr_iff.2 (.inr ⟨hg,hlim⟩);rw[hh]at this;simp at this
     ·exact ap.gg ⟨hg,hg'⟩)
   rw[show i+1+(m - (i+1))=m by omega]at this;exact this.symm
  |false=>
   rw[h2.hp0 id hwi];have hne:∀j,UI xs F j id→j≠i:=by
    rintro j ⟨hl,hw⟩ rfl
    rw[hwi]at hw;simp at hw
   exact inv.H m hm id (fun j hj hw=>(k1 j hj hw).resolve_right (hne j hw)) (fun j hj hw hX=>k2 j hj hw (.inl hX))
 ·cases hwi:(F i).grow with
  |true=>
   have him:i<m:=by
    rcases lν i m with h|h
    ·exact h
    ·exact absurd (.inr rfl) (k2 i h ⟨hlt,hwi⟩)
   rw[h2.len1 hwi];have:=p.stillL (m:=i+1) (m - (i+1)) (by omega) (fun j hj1 hj2=>fun⟨hl,hw⟩=>by
    have hX:=(k1 j (by omega) ⟨hl,hw⟩).resolve_right (by omega);exact(behind j _ (by omega) (getx j hl) hX).gg ⟨hwi,hw⟩)
   rw[show i+1+(m - (i+1))=m by omega]at this;exact this.symm
  |false=>
   rw[h2.len0 hwi];have hne:∀j,UJ xs F j→j≠i:=by
    rintro j ⟨hl,hw⟩ rfl
    rw[hwi]at hw;simp at hw
   exact inv.L m hm (fun j hj hw=>(k1 j hj hw).resolve_right (hne j hw)) (fun j hj hw hX=>k2 j hj hw (.inl hX))
theorem QJ.all {X:Nat→Prop}{st:St}(inv:QJ xs σ F X st)(h:∀j,j<xs.length→X j):(∀t,get st.tm t=get (σ xs.length).tm t)∧st.hp=(σ xs.length).hp:=by
 refine⟨fun t=>inv.T _ (Nat.le_refl _) t (fun j hj _=>h j hj) (fun j hj ⟨y,hy,_⟩=>by rw[lδ hj]at hy;simp at hy),?_⟩
 apply List.ext_getElem?;intro id;exact inv.H _ (Nat.le_refl _) id (fun j hj _=>h j hj) (fun j hj ⟨hl,_⟩=>absurd hj (by omega))
end
end Go.Ab
end
section
namespace Go.Ab
open Go
variable [Letters] [Mv]
def bZ (listed:Array Bool)(j:Nat):Prop:=listed[j]?=some true
section
variable {P:Program} {G:bx} {N:Nat} {call:aC} {base:Nat} {ops:Array Oper} {xs:List dE} {an:List (List Nat)} {σ:Nat→St} {F:Nat→df}
theorem wL {listed:Array Bool}(hs:listed.size=ops.size){i:Nat}:i∈Region.ready .any ops listed↔i<ops.size∧listed[i]?=some false∧∀o,ops[i]?=some o→∀d∈j9 o,bZ listed d:=by
 unfold Region.ready;rw[List.mem_filter];have hget:∀{j:Nat},listed.getD j false=true↔bZ listed j:=by
  intro j;unfold bZ;rw[Array.getD_eq_getD_getElem?];cases listed[j]? with
  |none=>simp
  |some b=>simp
 constructor
 ·rintro⟨h1,h2⟩
  have hi:i<ops.size:=by simpa using h1
  rw[lβ]at h2;obtain⟨h3,h4⟩:=h2;have hl:listed[i]?=some listed[i]:=Array.getElem?_eq_getElem (by omega);refine⟨hi,?_,?_⟩
  ·rw[Array.getD_eq_getD_getElem?,hl]at h3;rw[hl];simpa using h3
  ·intro o ho d hd;rw[ho]at h4;simp only[Option.map_some,Option.getD_some]at h4;simp only[j9,List.mem_map,List.mem_filter]at hd;obtain⟨e,⟨he,hb⟩,rfl⟩:=hd;have h5:=Array.all_eq_true'.1 h4 e (by simpa using he);have:hO e=Region.binds .any e:=rfl;rw[←this,hb]at h5;exact hget.1 (by simpa using h5)
 ·rintro⟨hi,hl,h⟩
  refine⟨by simpa using hi,?_⟩
  rw[lβ];refine⟨by rw[Array.getD_eq_getD_getElem?,hl];rfl,?_⟩
  have ho:ops[i]?=some ops[i]:=Array.getElem?_eq_getElem hi;rw[ho];simp only[Option.map_some,Option.getD_some];rw[Array.all_eq_true'];intro e he;cases hb:hO e with
  |false=>
   have:Region.binds .any e=false:=hb;simp[this]
  |true=>
   have:=h _ ho e.on (by
    simp only[j9,List.mem_map,List.mem_filter];exact⟨e,⟨by simpa using he,hb⟩,rfl⟩)
   rw[hget.2 this];simp
theorem yV (p:og call base ops.toList xs an σ F){listed:Array Bool}(hs:listed.size=ops.size)(h:Region.ready .any ops listed=[]):∀j,j<xs.length→bZ listed j:=by
 intro j;induction j using Nat.strongRecOn with
 |_ j ih=>
  intro hj;have hjo:j<ops.size:=by have:=p.len;simp at this;omega
  have hl:listed[j]?=some listed[j]:=Array.getElem?_eq_getElem (by omega);cases hc:listed[j]with
  |true=>unfold bZ;rw[hl,hc]
  |false=>
   exfalso;have:j∈Region.ready .any ops listed:=(wL hs).2 ⟨hjo,by rw[hl,hc],fun o ho d hd=>by
    have:=p.back j o (by simpa using ho) d hd;exact ih d this (by omega)⟩
   rw[h]at this;simp at this
theorem It {l:List Bool}:∀{i:Nat},l[i]?=some false→(l.set i true).count false+1=l.count false:=by
 induction l with
 |nil=>intro i h;simp at h
 |cons x r ih=>
  intro i h;cases i with
  |zero=>simp at h;subst h;simp
  |succ i=>
   simp at h;have:=ih h;cases x<;>simp[List.count_cons]<;>omega
theorem RI (hcall:eF P G call)(p:og call base ops.toList xs an σ F){raw:Nat→Bool}(hx:Pw (Od P G raw N ops.toList) ops.toList xs){Q:Exit→Act→World→Prop}:∀(aO:Nat) (listed:Array Bool) (st:St) (a:Act) (φ:List bQ) (w:World) (S:Nat→Prop),listed.size=ops.size→listed.toList.count false≤aO→
  NW ops.toList (bZ listed)→QJ xs σ F (bZ listed) st→np G N a φ w S st→base≤st.hp.length→
  (∀a' w' φ' S',np G N a' φ' w' S' (σ xs.length)→Fr (bc φ st.hp) S w (bc φ' (σ xs.length).hp) S' w'→(∀id,id<base→φ'[id]?=φ[id]?)→base≤(σ xs.length).hp.length→Q .normal a' w')→
  wpAny P .any ops Q aO listed a w:=by
 have gZ:∀(listed:Array Bool) (st:St) (a:Act) (φ:List bQ) (w:World) (S:Nat→Prop),QJ xs σ F (bZ listed) st→np G N a φ w S st→base≤st.hp.length→
   (∀a' w' φ' S',np G N a' φ' w' S' (σ xs.length)→Fr (bc φ st.hp) S w (bc φ' (σ xs.length).hp) S' w'→(∀id,id<base→φ'[id]?=φ[id]?)→base≤(σ xs.length).hp.length→Q .normal a' w')→
   (∀j,j<xs.length→bZ listed j)→Q .normal a w:=by
  intro listed st a φ w S inv rel hb hQ hall;obtain⟨h1,h2⟩:=inv.all hall;refine hQ a w φ S ⟨fun t=>by rw[←h1 t];exact rel.tmr t,rel.gr,by rw[←h2];exact rel.hr,rel.size,rel.defers⟩ ?_ (fun _ _=>rfl) (by rw[←h2];exact hb)
  rw[←h2];exact Fr.refl _ _ _
 intro aO;induction aO with
 |zero=>
  intro listed st a φ w S hs hc hd inv rel hb hQ;simp only[wpAny];have hno:∀j:Nat,listed[j]?≠some false:=by
   intro j hj;have hm:false∈listed.toList:=mθ (by simpa using hj);have:=List.count_pos_iff.2 hm;omega
  have hnil:Region.ready .any ops listed=[]:=by
   cases hr:Region.ready .any ops listed with
   |nil=>rfl
   |cons i r=>
    have:i∈Region.ready .any ops listed:=by rw[hr];simp
    exact absurd ((wL hs).1 this).2.1 (hno i)
  exact⟨hnil,gZ listed st a φ w S inv rel hb hQ (yV p hs hnil)⟩
 |succ aO ih=>
  intro listed st a φ w S hs hc hd inv rel hb hQ;simp only[wpAny];refine⟨fun hnil=>gZ listed st a φ w S inv rel hb hQ (yV p hs hnil),fun i hi=>?_⟩
  obtain⟨hio,hlf,hpr⟩:=(wL hs).1 hi;have ho:ops.toList[i]?=some ops[i]:=by simp[hio]
  obtain⟨x,hxi,hox⟩:=hx.get ho;have hni:¬bZ listed i:=by unfold bZ;rw[hlf];simp
  obtain⟨st',f',hev,inv'⟩:=p.more hd inv hxi hni (fun o ho' d hd'=>hpr o (by simpa using ho') d hd');have hli:i<listed.size:=by omega
  have hX:∀j,bZ (listed.setIfInBounds i true) j↔(bZ listed j∨j=i):=by
   intro j;unfold bZ;rw[Array.getElem?_setIfInBounds];by_cases hij:i=j
   ·subst hij;simp[hli]
   ·simp[hij];intro e;exact absurd e.symm hij
  have hs':(listed.setIfInBounds i true).size=ops.size:=by simpa using hs
  have hc':(listed.setIfInBounds i true).toList.count false≤aO:=by
   have:=It (l:=listed.toList) (i:=i) (by simpa using hlf);simp only[Array.toList_setIfInBounds];omega
  have hd':NW ops.toList (bZ (listed.setIfInBounds i true)):=by
   intro j o hj hXj d hdp;rw[hX]at hXj ⊢
   rcases hXj with h|rfl
   ·exact .inl (hd j o hj h d hdp)
   ·exact .inl (hpr o (by simpa using hj) d hdp)
  have hinv':QJ xs σ F (bZ (listed.setIfInBounds i true)) st':=by
   have:bZ (listed.setIfInBounds i true)=fun j=>bZ listed j∨j=i:=by funext j;exact propext (hX j)
   rw[this];exact inv'
  have hop:ops[i]?=some ops[i]:=Array.getElem?_eq_getElem hio;simp only[wpOp,hop];unfold IN at hev;split at hev
  ·simp at hev
  ·rename_i hgd;rw[if_pos (by rw[pS rel.tmr hox hgd])];refine .inl (Ra hcall rel hox.op hox.dst hox.lt hb hev fun a' w' φ' S' rel' hf hφ=>?_);refine ih _ st' a' φ' w' S' hs' hc' hd' hinv' rel' (mμ hb (Cu hev)) fun a2 w2 φ2 S2 r1 r2 r3 r4=>hQ a2 w2 φ2 S2 r1 (hf.trans r2) (fun id hid=>(r3 id hid).trans (hφ id hid)) r4
  ·rename_i hgd;rw[if_neg (by rw[pS rel.tmr hox hgd];simp)];have hdo:yi (ops[i]).dst a:=fun t ht=>mπ (hox.lt t ht) rel.size
   simp only[lα,lι]at hev;obtain⟨rfl,rfl⟩:=hev;rw[hox.dst]at hinv';exact ih _ _ _ φ w S hs' hc' hd' hinv' (rel.skip hdo) hb hQ
variable {a:Act} {φ:List bQ} {w:World} {S:Nat→Prop} {st:St}
theorem np.drawn (h:np G N a φ w S st)(n:Nat):np G N a φ {w with drawn:=n} S st:=by
 have hst:du S w {w with drawn:=n}:=fun _ _=>rfl
 exact⟨iF (Ext.refl φ) hst (fun _ h=>h) h.tmr,tG hst (fun _ h=>h) h.gr,⟨h.hr.len,fun id l o h1 h2=>ph (Ext.refl φ) hst (fun _ h=>h) (fun _ _=>rfl) (h.hr.obj id l o h1 h2),h.hr.own,h.hr.one,h.hr.low⟩,h.size,h.defers⟩
theorem FN (hcall:eF P G call)(hm:P.follows .mixedOrders=true){raw:Nat→Bool}{id:Nat}{xs:List dE}{nal k:Nat}{ps:List (Nat×Nat)}{Q:Exit→Act→World→Prop}{stn:St}{m:Nat}(hx:EE P G raw N ops.toList ops.toList 0=some (xs,k))
  (hed:gc ops.toList 0=true) (hps:j7 xs (xy ops.toList []) (List.range xs.length)=some ps) (hev:pJ call nal xs (some ps) st=some stn)
  (rel:np G N a φ w S st) (hmm:m≤st.hp.length) (hQ:∀a' w',Later G N m φ w S st stn a' w'→Q .normal a' w'):(Code.region id ops true).wp P Q a w:=by
 have hpw:=zR hx;simp only[pJ]at hev;split at hev
 ·rename_i st2 fs hseq;obtain⟨hap,hev⟩:=fD hev;simp only[lα]at hev;subst hev;obtain⟨σ,F,hσ0,hσn,plan⟩:=Qq hpw.1 hed hps hseq hap;have hlen:=rel.hr.len;have hres:=rel.hr.reserve nal;refine wp_region_any hm (RI hcall plan hpw ops.size _ (σ 0) a (φ++List.replicate nal .none) _ S (by simp) (by simp) (fun j o hj hX=>?_) ?_ (by rw[hσ0];exact(rel.reserve nal).drawn _) (by rw[hσ0];simp[gB]) fun a' w' φ' S' r1 r2 r3 r4=>hQ a' w' ?_)
  ·simp[bZ]at hX;rw[Array.getElem?_replicate]at hX;split at hX<;>simp at hX
  ·have:bZ (Array.replicate ops.size false)=fun _=>False:=by
    funext j
    unfold bZ;rw[Array.getElem?_replicate];split<;>simp
   rw[this];exact plan.start
  ·rw[hσn]at r1 r2 r4;rw[hσ0]at r2;refine⟨φ',S',r1,?_,fun id hid=>by rw[r3 id (by omega),lη (by omega)],mμ hmm r4⟩
   refine Fr.trans (O1:=bc (φ++List.replicate nal .none) (grow st.hp (List.replicate nal .unborn))) (S1:=S) (w1:={w with drawn:=w.drawn+1}) ?_ r2;rw[gB];exact⟨fun _ _ _=>rfl,Nat.le_refl _,rfl,rfl,rfl,fun _ h=>h,fun _ h=> .inl h,fun b hb=> .inl (hres.2.1 b hb)⟩
 ·simp at hev
end
end Go.Ab
end
section
namespace Go.Ab
open Go
variable [Letters] [Mv]
section
variable {P:Program} {G:bx} {N m:Nat} {call:aC} {a:Act} {φ:List bQ} {w:World} {S:Nat→Prop} {st st':St} {hp:List Ob}
theorem Later.refl (rel:np G N a φ w S st)(hm:m≤st.hp.length):Later G N m φ w S st st a w:=⟨φ,S,rel,Fr.refl _ _ _,fun _ _=>rfl,hm⟩
theorem Ew {cs:List D}{k i lo len z:Nat}(h:b3 (cs.set k (.arr i lo len z))=true):b3 cs=true:=by
 unfold b3 at h ⊢
 rw[List.length_set]at h;rw[lβ]at h ⊢
 refine⟨h.1,?_⟩;have h2:=h.2;cases cs with
 |nil=>exact h2
 |cons d r=>
  cases k with
  |zero=>exact absurd h2 (by simp[pH])
  |succ k=>cases d<;>first|exact h2|(rename_i x;cases x<;>exact h2)
theorem HR.push (hr:HR φ w S hp){l:bQ}{o:Ob}(hob:OR (φ++[l]) w S l o)(hown:∀b,bq l o≠some b):HR (φ++[l]) w S (hp++[o])∧(∀b,bc (φ++[l]) (hp++[o]) b→bc φ hp b)∧Ext φ (φ++[l]):=by
 have hext:Ext φ (φ++[l]):=by
  intro id x hl _;have:id<φ.length:=by
   rcases lν id φ.length with h|h
   ·exact h
   ·simp[lδ h]at hl
  rw[lη this];exact hl
 have hat:∀{id:Nat} {x:bQ} {y:Ob},(φ++[l])[id]?=some x→(hp++[o])[id]?=some y→(φ[id]?=some x∧hp[id]?=some y)∨(x=l∧y=o):=by
  intro id x y h1 h2;rcases lν id hp.length with h|h
  ·rw[lη h]at h2;rw[lη (by rw[hr.len];exact h)]at h1;exact .inl ⟨h1,h2⟩
  ·rw[lξ h]at h2;rw[lξ (by rw[hr.len];exact h),hr.len]at h1;cases hk:id - hp.length with
   |zero=>rw[hk]at h1 h2;simp at h1 h2;exact .inr ⟨h1.symm,h2.symm⟩
   |succ n=>rw[hk]at h1;simp at h1
 have hown':∀b,bc (φ++[l]) (hp++[o]) b→bc φ hp b:=by
  rintro b ⟨id,x,y,h1,h2,h3⟩
  rcases hat h1 h2 with⟨g1,g2⟩|⟨rfl,rfl⟩
  ·exact⟨id,x,y,g1,g2,h3⟩
  ·exact absurd h3 (hown b)
 refine⟨⟨by simp[hr.len],?_,fun b hb=>hr.own b (hown' b hb),?_,hr.low⟩,hown',hext⟩
 ·intro id x y h1 h2;rcases hat h1 h2 with⟨g1,g2⟩|⟨rfl,rfl⟩
  ·exact ph hext (fun _ _=>rfl) (fun _ h=>h) (fun _ _=>rfl) (hr.obj id x y g1 g2)
  ·exact hob
 ·intro id id' x x' y y' b h1 h2 h1' h2' h3 h3';rcases hat h1 h2 with⟨g1,g2⟩|⟨rfl,rfl⟩
  ·rcases hat h1' h2' with⟨g1',g2'⟩|⟨rfl,rfl⟩
   ·exact hr.one id id' x x' y y' b g1 g2 g1' g2' h3 h3'
   ·exact absurd h3' (hown b)
  ·exact absurd h3 (hown b)
theorem G9 {d:D}{v:Value}(h:VR φ w S d v)(ho:Jc d=true):∃ad,v= .slice ad 0 0:=by
 unfold Jc at ho;split at ho
 ·simp only[VR]at h;obtain⟨ad,cap,us,rfl,h1,h2,_⟩:=h;simp only[f1]at h2;have:us=[]:=lθ (by omega);subst this;exact⟨ad,by rw[h2.2];rfl⟩
 ·simp only[VR,nA]at h;obtain⟨ad,cap,us,rfl,h1,h2,h3,_⟩:=h;subst h3;simp only[f1]at h2;subst h2;exact⟨ad,rfl⟩
 ·simp at ho
theorem BP {ad:Option Addr}{z:Nat}{id:Nat}(h:φ[id]?=some (.arr 0 0 0 z 0)):VR φ w S (.arr id 0 0 z) (.slice ad 0 0):=by
 simp only[VR];exact⟨0,0,0,0,ad,h,by simp,by simp,by simp,by simp⟩
theorem wF (hr:HR φ w S hp)(z:Nat):HR (φ++[.arr 0 0 0 z 0]) w S (hp++[.arr []])∧(∀b,bc (φ++[.arr 0 0 0 z 0]) (hp++[.arr []]) b→bc φ hp b)∧Ext φ (φ++[.arr 0 0 0 z 0]):=
 hr.push (by
  simp only[OR];exact⟨rfl,Nat.le_refl _,fun h=>absurd h (Nat.lt_irrefl 0),[],Pw.nil,by intro i u hu;simp at hu⟩) (by intro b;simp[bq])
theorem BO {tm:Tm}{s:Nat}{d:D}(h:JD φ w S tm a)(hd:VR φ w S d (a.tmps.getD s undef)):JD φ w S (.cons s d tm) a:=by
 intro t;simp only[get];rw[beq_eq];by_cases hs:s=t
 ·subst hs;simpa using hd
 ·simp only[hs,decide_false,cond_false];exact h t
theorem I3 (rel:np G N a φ w S st)(hm:m≤st.hp.length){n:Nat}{ws:List Nat}(live:List Nat):Later G N m φ w S st ⟨dR live (mapD (idx (close st.hp n ws (List.range m)))) st.tm,bt (close st.hp n ws (List.range m)) st.hp⟩ a w:=by
 have hnd:=(dN (hp:=st.hp) n ws (List.range m) List.nodup_range).1;have hlen:=rel.hr.len;refine⟨hH (close st.hp n ws (List.range m)) φ,S,⟨fun t=>?_,rel.gr,rel.hr.shrink hnd,rel.size,rel.defers⟩,(Fr.refl _ _ _).less fun b hb=>GT rel.hr _ hb,fun id hid=>yy (by omega) hid,?_⟩
 ·rw[vD];split
  ·exact uT (nf _ φ) _ (rel.tmr t)
  ·simp only[VR]
 ·obtain⟨r,hr⟩:=(dN (hp:=st.hp) n ws (List.range m) List.nodup_range).2;simp only[bt,lμ];rw[←hr];simp
theorem My (rel:np G N a φ w S st)(s off:Nat):∃v,VR φ w S (Uy st s off) v:=by
 unfold Uy;cases Nat.ble 1000 off
 ·exact⟨_,rel.tmr s⟩
 ·simp only[cond_true];split
  ·rename_i id o hs;have hvs:=rel.tmr s;rw[hs]at hvs;simp only[VR]at hvs;obtain⟨b,hb,_⟩:=hvs;split
   ·rename_i cs hcs;have hob:=dO hcs (by simp);obtain⟨vs0,t0,fz0,e1,e2,e3,e4,_⟩:=rel.hr.obj id _ _ hb hob;cases hd:cs[o]? with
    |none=>
     refine⟨undef,?_⟩;rw[lρ,hd];simp only[Option.getD_none,VR]
    |some d=>
     obtain⟨v,hv1,hv2⟩:=e3.get hd;refine⟨v,?_⟩;rw[lρ,hd];exact hv2
   ·exact⟨undef,by simp only[VR]⟩
  ·exact⟨undef,by simp only[VR]⟩
theorem GG {g:Gh}(h:jd m g st=some st')(rel:np G N a φ w S st)(hm:m≤st.hp.length):Later G N m φ w S st st' a w:=by
 have hlen:=rel.hr.len;cases g with
 |own s z=>
  simp only[jd]at h;cases hc:Jc (get st.tm s)with
  |false=>rw[hc]at h;simp at h;subst h;exact Later.refl rel hm
  |true=>
   rw[hc]at h;simp only[cond_true,lα]at h;subst h;obtain⟨h1,h2,h3⟩:=wF rel.hr z;obtain⟨ad,hv⟩:=G9 (rel.tmr s) hc;refine⟨φ++[.arr 0 0 0 z 0],S,⟨BO (iF h3 (fun _ _=>rfl) (fun _ h=>h) rel.tmr) ?_,rel.gr,h1,rel.size,rel.defers⟩,(Fr.refl _ _ _).less h2,fun id hid=>lη (by omega),by simp;omega⟩
   rw[hv];exact BP (by rw[←hlen];simp)
 |ownc s off z=>
  simp only[jd]at h;split at h
  ·rename_i id o hs;split at h
   ·rename_i cs hcs;split at h
    ·rename_i d hd;cases hc:Jc d with
     |false=>rw[hc]at h;simp at h;subst h;exact Later.refl rel hm
     |true=>
      rw[hc]at h;simp only[cond_true,lα]at h;subst h;obtain⟨h1,h2,h3⟩:=wF rel.hr z;have hob:=dO hcs (by simp);obtain⟨v0,hvs⟩:=My rel s off;rw[hs]at hvs;simp only[VR]at hvs;obtain⟨b,hb,_⟩:=hvs;have hidl:id<st.hp.length:=by
       rcases lν id st.hp.length with h|h
       ·exact h
       ·simp[lδ h]at hob
      have hob1:(st.hp++[Ob.arr []])[id]?=some (.box cs):=by rw[lη hidl];exact hob
      have hb1:(φ++[bQ.arr 0 0 0 z 0])[id]?=some (.box b):=by rw[lη (by omega)];exact hb
      obtain⟨vs,t,fz,g1,g2,g3,g4,g5⟩:=h1.obj id _ _ hb1 hob1;obtain⟨v,hv1,hv2⟩:=g3.get hd;obtain⟨ad,hv⟩:=G9 hv2 hc;have hphi:(φ++[bQ.arr 0 0 0 z 0]).set id (.box b)=φ++[bQ.arr 0 0 0 z 0]:=cZ hb1;have hnew:(φ++[bQ.arr 0 0 0 z 0])[st.hp.length]?=some (.arr 0 0 0 z 0):=by rw[←hlen];simp
      have hown:=h1.own b ⟨id,_,_,hb1,hob1,rfl⟩;obtain⟨k1,k2,k3⟩:=h1.one_step (S':=S) (w':=w) (l':= .box b) (o':= .box (cs.set (o+IV off) (.arr st.hp.length 0 0 z))) hb1 hob1 (fun _=>rfl) (fun _ _ _=>rfl) (Nat.le_refl _) rfl rfl rfl (fun _ h=>h) (fun _ h=> .inl h) h1.low (by
       rw[hphi];simp only[OR];refine⟨vs,t,fz,g1,g2,?_,g4,fun hh=>g5 (Ew hh)⟩
       have:=g3.set (o+IV off) (x:= .arr st.hp.length 0 0 z) (v:=v) (by rw[hv];exact BP hnew);rwa [cZ hv1]at this) (by
       intro b' hb';simp only[bq,lα]at hb';subst hb';exact⟨.inl rfl,hown.2,hown.1⟩)
      rw[hphi]at k1 k2;have he:qp st.hp id (.box (cs.set (o+IV off) (.arr st.hp.length 0 0 z)))++[Ob.arr []]=(st.hp++[Ob.arr []]).set id (.box (cs.set (o+IV off) (.arr st.hp.length 0 0 z))):=by
       rw[aX,List.set_append_left _ _ hidl]
      refine⟨φ++[.arr 0 0 0 z 0],S,⟨iF h3 (fun _ _=>rfl) (fun _ h=>h) rel.tmr,rel.gr,by rw[he];exact k1,rel.size,rel.defers⟩,?_,fun id hid=>lη (by omega),by simp[aX];omega⟩
      rw[he];exact Fr.trans ((Fr.refl _ _ _).less h2) k2
    ·simp at h
   ·simp at h
  ·simp at h
 |frz s=>
  simp only[jd]at h;split at h
  ·rename_i x hx;simp only[lα]at h;subst h;have hz:((dids (get st.tm s)).map fun i=>(i,aN st.hp i))=(dids (get st.tm s)).zip ((dids (get st.tm s)).map (aN st.hp)):=(qG (aN st.hp) _).symm;rw[hz]at hx ⊢
   obtain⟨h1,h2⟩:=rel.hr.freeze (dids (get st.tm s));have hv:=lu rel.hr (S':=Bu φ S st.hp (dids (get st.tm s))) (fun _ h=> .inl h) lQ _ hx (rel.tmr s);refine⟨φ,_,⟨BO (iF (Ext.refl φ) (fun _ _=>rfl) (fun _ h=> .inl h) rel.tmr) (by simp only[VR];exact hv),tG (fun _ _=>rfl) (fun _ h=> .inl h) rel.gr,h1,rel.size,rel.defers⟩,h2,fun _ _=>rfl,by rw[bn];exact hm⟩
  ·simp at h
 |frzc s off=>
  simp only[jd]at h;split at h
  ·rename_i id o hs;split at h
   ·rename_i cs hcs;split at h
    ·rename_i d hd;cases hc:(dids d).contains id with
     |true=>rw[hc]at h;simp at h
     |false=>
      rw[hc]at h;simp only[cond_false]at h;split at h
      ·rename_i x hx;cases hbt:(b3 (cs.set (o+IV off) (.p x))&&!b3 cs)with
       |true=>rw[hbt]at h;simp at h
       |false=>
       simp only[hbt,cond_false,lα]at h;subst h;have hb3:b3 (cs.set (o+IV off) (.p x))=true→b3 cs=true:=fun hh=>by rw[hh]at hbt;simpa using hbt
       have hni:id∉dids d:=by simpa using hc
       have hz:((dids d).map fun i=>(i,aN st.hp i))=(dids d).zip ((dids d).map (aN st.hp)):=(qG (aN st.hp) _).symm;rw[hz]at hx ⊢
       obtain⟨h1,h2⟩:=rel.hr.freeze (dids d);have hob:=dO hcs (by simp);obtain⟨v0,hvs⟩:=My rel s off;rw[hs]at hvs;simp only[VR]at hvs;obtain⟨b,hb,_⟩:=hvs;obtain⟨vs0,t0,fz0,e1,e2,e3,e4,_⟩:=rel.hr.obj id _ _ hb hob;obtain⟨v,hv1,hv2⟩:=e3.get hd;have hv:=lu rel.hr (S':=Bu φ S st.hp (dids d)) (fun _ h=> .inl h) lQ _ hx hv2;have hob1:(aj st.hp (cj ((dids d).zip ((dids d).map (aN st.hp)))))[id]?=some (.box cs):=by
        rw[vB,ek,if_neg (fun h=>hni h.1)];exact hob
       obtain⟨vs,t,fz,g1,g2,g3,g4,g5⟩:=h1.obj id _ _ hb hob1;have hvv:vs=vs0:=by
        rw[e1]at g1;simp at g1;exact g1.1.symm
       subst hvv;have hphi:φ.set id (.box b)=φ:=cZ hb;have hown:=h1.own b ⟨id,_,_,hb,hob1,rfl⟩;obtain⟨k1,k2,k3⟩:=h1.one_step (S':=Bu φ S st.hp (dids d)) (w':=w) (l':= .box b) (o':= .box (cs.set (o+IV off) (.p x))) hb hob1 (fun _=>rfl) (fun _ _ _=>rfl) (Nat.le_refl _) rfl rfl rfl (fun _ h=>h) (fun _ h=> .inl h) h1.low (by
        rw[hphi];simp only[OR];refine⟨vs,t,fz,g1,g2,?_,g4,fun hh=>g5 (hb3 hh)⟩
        have:=g3.set (o+IV off) (x:= .p x) (v:=v) (by simp only[VR];exact hv);rwa [cZ hv1]at this) (by
        intro b' hb';simp only[bq,lα]at hb';subst hb';exact⟨.inl rfl,hown.2,hown.1⟩)
       rw[hphi]at k1 k2;refine⟨φ,Bu φ S st.hp (dids d),⟨iF (Ext.refl φ) (fun _ _=>rfl) (fun _ h=> .inl h) rel.tmr,tG (fun _ _=>rfl) (fun _ h=> .inl h) rel.gr,by rw[aX];exact k1,rel.size,rel.defers⟩,?_,fun _ _=>rfl,by rw[aX,List.length_set,bn];exact hm⟩
       rw[aX];exact Fr.trans h2 k2
      ·simp at h
    ·simp at h
   ·simp at h
  ·simp at h
 |keep live=>
  simp only[jd,lα]at h;subst h;exact I3 rel hm live
theorem Later.bind {φ1:List bQ}{S1:Nat→Prop}{w1:World}{st1 st2:St}{a2:Act}{w2:World}(hf:Fr (bc φ st.hp) S w (bc φ1 st1.hp) S1 w1)(hφ:∀id,id<m→φ1[id]?=φ[id]?)(h:Later G N m φ1 w1 S1 st1 st2 a2 w2):Later G N m φ w S st st2 a2 w2:=by
 obtain⟨φ2,S2,r1,r2,r3,r4⟩:=h;exact⟨φ2,S2,r1,hf.trans r2,fun id hid=>(r3 id hid).trans (hφ id hid),r4⟩
def xg (ex:Ex):Exit→Prop
 | .normal=>ex= .norm
 | .exit i=>ex= .exit i
 | .ret=>ex= .ret
 |_=>False
def Post (G:bx)(N m:Nat)(φ:List bQ)(w:World)(S:Nat→Prop)(st:St)(r:Ex×St)(e:Exit)(a':Act)(w':World):Prop:=xg r.1 e∧Later G N m φ w S st r.2 a' w'
theorem Post.bind {φ1:List bQ}{S1:Nat→Prop}{w1:World}{st1:St}{r:Ex×St}{e:Exit}{a2:Act}{w2:World}(hf:Fr (bc φ st.hp) S w (bc φ1 st1.hp) S1 w1)(hφ:∀id,id<m→φ1[id]?=φ[id]?)(h:Post G N m φ1 w1 S1 st1 r e a2 w2):Post G N m φ w S st r e a2 w2:=
 ⟨h.1,h.2.bind hf hφ⟩
theorem Bb {c:Code}{Q:Exit→Act→World→Prop}(I:Nat→Act→World→Prop)(zero:∀a w,¬I 0 a w)(round:∀n a w,I (n+1) a w→c.wp P (Exit.then (I n) Q) a w){n:Nat}(h₀:I n a w):(Code.loop c).wp P Q a w:=by
 intro b k cs;have key:∀n a w,I n a w→∃e a' w',Q e a' w'∧Arrives P (lone (b.at a (.code c:: .inLoop c::k)) cs w) b k cs e a' w':=by
  intro n;induction n with
  |zero=>intro a w h;exact absurd h (zero a w)
  |succ n ih=>
   intro a w hI;obtain⟨e,a₁,w₁,hq,harr⟩:=round n a w hI b (.inLoop c::k) cs;cases e with
   |normal=>
    obtain⟨e₂,a₂,w₂,hq₂,harr₂⟩:=ih a₁ w₁ hq;exact⟨e₂,a₂,w₂,hq₂,.of_steps (Steps.trans harr (.one step_inLoop)) harr₂⟩
   |exit id=>exact⟨_,a₁,w₁,hq,.pass (x:= .inLoop c) rfl (fun _ _=> .inl (by simp)) harr⟩
   |goto l=>exact⟨_,a₁,w₁,hq,.pass (x:= .inLoop c) rfl (fun _ _=> .inl (by simp)) harr⟩
   |ret=>exact⟨_,a₁,w₁,hq,.pass (x:= .inLoop c) rfl (fun _ _=> .inl (by simp)) harr⟩
   |panic ch=>exact⟨_,a₁,w₁,hq,.pass (x:= .inLoop c) rfl (fun _ _=> .inl (by simp)) harr⟩
   |outgrown=>exact⟨_,a₁,w₁,hq,.pass (x:= .inLoop c) rfl (fun _ _=> .inl (by simp)) harr⟩
 obtain⟨e,a',w',hq,harr⟩:=key n a w h₀;exact⟨e,a',w',hq,.of_steps (.one step_loop) harr⟩
end
end Go.Ab
end
section
namespace Go.Ab
open Go
variable [Letters] [Mv]
section
variable {P:Program} {G:bx} {raw:Nat→Bool} {N m:Nat} {call:aC} {a:Act} {φ:List bQ} {w:World} {S:Nat→Prop} {st st':St} {hp:List Ob}
def y0 (P:Program)(G:bx)(raw:Nat→Bool)(N:Nat)(c:Code):Co→Prop
 | .skip=>c= .skip
 | .reg nal xs ps _=>(∃id ops draw,c= .region id ops draw∧EF P G raw N ops.toList draw=some (.reg nal xs ps []))∨(nal=0∧xs=[⟨none,.pan,[],0,none⟩]∧ps=none)
 | .seq x y=>∃a b,c= .seq a b∧zP P G raw N a=some x∧zP P G raw N b=some y
 | .cond z x y=>∃o a b,c= .cond o a b∧cA P G 0 o=some z∧zP P G raw N a=some x∧zP P G raw N b=some y
 | .block id x=>∃a,c= .block id a∧zP P G raw N a=some x
 | .loop _ x=>∃a,c= .loop a∧zP P G raw N a=some x
 | .exit id=>c= .exit id
 | .ret=>c= .ret
 | .gh _ _=>False
theorem mi {c:Code}{k:Co}(h:zP P G raw N c=some k):y0 P G raw N c k:=by
 cases c<;>simp only[zP]at h;case skip=>simp only[lα]at h;subst h;rfl
 case region id ops draw=>
  have h0:=h;unfold EF at h;split at h
  ·simp at h
  ·rename_i xs n hx;cases draw with
   |false=>
    simp only[cond_false,lα]at h;subst h;exact .inl ⟨id,ops,false,rfl,h0⟩
   |true=>
    simp only[cond_true]at h;obtain⟨_,h⟩:=fD h;split at h
    ·simp only[lα]at h;subst h;exact .inl ⟨id,ops,true,rfl,h0⟩
    ·simp at h
 case seq a b=>
  split at h
  ·rename_i x y hx hy;simp only[lα]at h;subst h;exact⟨a,b,rfl,hx,hy⟩
  ·simp at h
 case cond o a b=>
  split at h
  ·rename_i z x y hz hx hy;simp only[lα]at h;subst h;exact⟨o,a,b,rfl,hz,hx,hy⟩
  ·simp at h
 case block id b=>
  split at h
  ·rename_i x hx;simp only[lα]at h;subst h;exact⟨b,rfl,hx⟩
  ·simp at h
 case loop b=>
  split at h
  ·rename_i x hx;simp only[lα]at h;subst h;exact⟨b,rfl,hx⟩
  ·simp at h
 case exit id=>simp only[lα]at h;subst h;rfl
 case ret=>simp only[lα]at h;subst h;rfl
 case refuse y=>simp only[lα]at h;subst h;exact .inr ⟨rfl,rfl,rfl⟩
 all_goals simp at h
theorem TH (hcall:eF P G call)(hm:P.follows .mixedOrders=true){aO:Nat}:∀(k:Co) {c:Code} {st:St} {r:Ex×St} {a:Act} {φ:List bQ} {w:World} {S:Nat→Prop},zP P G raw N c=some (er k)→bT call aO m k st=some r→np G N a φ w S st→m≤st.hp.length→c.wp P (Post G N m φ w S st r) a w:=by
 intro k;induction k with
 |skip=>
  intro c st r a φ w S hc hev rel hmm;have:=mi hc;simp only[er,y0]at this;subst this;simp only[bT,lα]at hev;subst hev;exact wp_skip ⟨rfl,Later.refl rel hmm⟩
 |reg nal xs ps out=>
  intro c st r a φ w S hc hev rel hmm;have:=mi hc;simp only[er,y0]at this;have this:∃id ops draw,c= .region id ops draw∧EF P G raw N ops.toList draw=some (.reg nal xs ps []):=by
   rcases this with h|⟨rfl,rfl,rfl⟩
   ·exact h
   ·simp only[bT]at hev;have:pJ call 0 [⟨none,.pan,[],0,none⟩] none st=none:=rfl;rw[this]at hev;cases hev
  obtain⟨rid,ops,draw,rfl,hreg⟩:=this;simp only[bT]at hev;split at hev
  ·rename_i st1 hst1;simp only[lα]at hev;subst hev;have gZ:∀a' w',Later G N m φ w S st st1 a' w'→Post G N m φ w S st (.norm,⟨dR out id st1.tm,st1.hp⟩) .normal a' w':=by
    rintro a' w' ⟨φ',S',r1,r2,r3,r4⟩
    refine⟨rfl,φ',S',⟨fun t=>?_,r1.gr,r1.hr,r1.size,r1.defers⟩,r2,r3,r4⟩
    simp only[vD];split
    ·exact r1.tmr t
    ·simp only[VR]
   unfold EF at hreg;split at hreg
   ·simp at hreg
   ·rename_i ys n hx;cases draw with
    |false=>
     simp only[cond_false,lα,Co.reg.injEq]at hreg;obtain⟨rfl,rfl,rfl,_⟩:=hreg;exact S6 hcall hx hst1 rel hmm gZ
    |true=>
     simp only[cond_true]at hreg;obtain⟨hed,hreg⟩:=fD hreg;split at hreg
     ·rename_i ps' hps;simp only[lα,Co.reg.injEq]at hreg;obtain⟨rfl,rfl,rfl,_⟩:=hreg;exact FN hcall hm hx hed hps hst1 rel hmm gZ
     ·simp at hreg
  ·simp at hev
 |seq x y ihx ihy=>
  intro c st r a φ w S hc hev rel hmm;have:=mi hc;simp only[er,y0]at this;obtain⟨cx,cy,rfl,hx,hy⟩:=this;simp only[bT]at hev;refine wp_seq ?_;split at hev
  ·rename_i st1 hst1;refine wp_mono (ihx hx hst1 rel hmm) ?_;rintro e a1 w1 ⟨h1,φ1,S1,r1,r2,r3,r4⟩;cases e<;>simp only[xg,reduceCtorEq]at h1;exact wp_mono (ihy hy hev r1 r4) fun e a2 w2 h=>h.bind r2 r3
  ·rename_i hne;refine wp_mono (ihx hx hev rel hmm) ?_;rintro e a1 w1 ⟨h1,h2⟩;cases e with
   |normal=>
    exfalso;simp only[xg]at h1;obtain⟨ex,s1⟩:=r;simp only at h1;subst h1;exact hne s1 hev
   |exit i=>exact⟨h1,h2⟩
   |ret=>exact⟨h1,h2⟩
   |goto l=>exact h1.elim
   |panic ch=>exact h1.elim
   |outgrown=>exact h1.elim
 |cond z x y ihx ihy=>
  intro c st r a φ w S hc hev rel hmm;have:=mi hc;simp only[er,y0]at this;obtain⟨o,cx,cy,rfl,hz,hx,hy⟩:=this;have hv:=aQ rel.tmr rel.gr hz;simp only[bT]at hev;split at hev
  ·rename_i b hb;rw[hb]at hv;simp only[VR,PR]at hv;cases b with
   |true=>exact wp_cond_true hv (ihx hx hev rel hmm)
   |false=>exact wp_cond_false hv (ihy hy hev rel hmm)
  ·simp at hev
 |block id x ihx=>
  intro c st r a φ w S hc hev rel hmm;have:=mi hc;simp only[er,y0]at this;obtain⟨cx,rfl,hx⟩:=this;simp only[bT]at hev;refine wp_block ?_;split at hev
  ·rename_i i st1 hst1;refine wp_mono (ihx hx hst1 rel hmm) ?_;rintro e a1 w1 ⟨h1,h2⟩;rw[beq_eq]at hev;cases e with
   |exit j=>
    simp only[xg,Ex.exit.injEq]at h1;subst h1;by_cases hij:i=id
    ·simp only[hij,decide_true,cond_true,lα]at hev;subst hev;simp only[Exit.inBlock,hij,if_true];exact⟨rfl,h2⟩
    ·simp only[hij,decide_false,cond_false,lα]at hev;subst hev;simp only[Exit.inBlock,if_neg hij];exact⟨rfl,h2⟩
   |normal=>simp[xg]at h1
   |ret=>simp[xg]at h1
   |goto l=>exact h1.elim
   |panic ch=>exact h1.elim
   |outgrown=>exact h1.elim
  ·rename_i hne;refine wp_mono (ihx hx hev rel hmm) ?_;rintro e a1 w1 ⟨h1,h2⟩;cases e with
   |exit j=>
    exfalso;simp only[xg]at h1;obtain⟨ex,s1⟩:=r;simp only at h1;subst h1;exact hne j s1 hev
   |normal=>exact⟨h1,h2⟩
   |ret=>exact⟨h1,h2⟩
   |goto l=>exact h1.elim
   |panic ch=>exact h1.elim
   |outgrown=>exact h1.elim
 |loop live x ihx=>
  intro c st r a φ w S hc hev rel hmm;have:=mi hc;simp only[er,y0]at this;obtain⟨cx,rfl,hx⟩:=this;simp only[bT]at hev;refine Bb (fun n a1 w1=>∃st1,rz m (bT call aO m x) live n st1=some r∧∃φ1 S1,np G N a1 φ1 w1 S1 st1∧Fr (bc φ st.hp) S w (bc φ1 st1.hp) S1 w1∧(∀id,id<m→φ1[id]?=φ[id]?)∧m≤st1.hp.length) ?_ ?_ (n:=aO) ⟨st,hev,φ,S,rel,Fr.refl _ _ _,fun _ _=>rfl,hmm⟩
  ·rintro a1 w1 ⟨st1,h,_⟩
   simp[rz]at h
  ·rintro n a1 w1 ⟨st1,h,φ1,S1,r1,r2,r3,r4⟩
   simp only[rz]at h;split at h
   ·simp at h
   ·rename_i st2 hst2;obtain⟨φ2,S2,q1,q2,q3,q4⟩:=GG hst2 r1 r4;split at h
    ·rename_i st3 hst3;refine wp_mono (ihx hx hst3 q1 q4) ?_;rintro e a3 w3 ⟨h1,φ3,S3,p1,p2,p3,p4⟩;cases e<;>simp only[xg,reduceCtorEq]at h1;exact⟨st3,h,φ3,S3,p1,(r2.trans q2).trans p2,fun id hid=>((p3 id hid).trans (q3 id hid)).trans (r3 id hid),p4⟩
    ·rename_i hne;refine wp_mono (ihx hx h q1 q4) ?_;rintro e a3 w3 ⟨h1,h2⟩;have hb:=h2.bind (r2.trans q2) (fun id hid=>(q3 id hid).trans (r3 id hid));cases e with
     |normal=>
      exfalso;simp only[xg]at h1;obtain⟨ex,s1⟩:=r;simp only at h1;subst h1;exact hne s1 h
     |exit i=>exact⟨h1,hb⟩
     |ret=>exact⟨h1,hb⟩
     |goto l=>exact h1.elim
     |panic ch=>exact h1.elim
     |outgrown=>exact h1.elim
 |exit id=>
  intro c st r a φ w S hc hev rel hmm;have:=mi hc;simp only[er,y0]at this;subst this;simp only[bT,lα]at hev;subst hev;exact wp_exit ⟨rfl,Later.refl rel hmm⟩
 |ret=>
  intro c st r a φ w S hc hev rel hmm;have:=mi hc;simp only[er,y0]at this;subst this;simp only[bT,lα]at hev;subst hev;exact wp_ret ⟨rfl,Later.refl rel hmm⟩
 |gh g x ihx=>
  intro c st r a φ w S hc hev rel hmm;simp only[er]at hc;simp only[bT]at hev;split at hev
  ·rename_i st1 hst1;obtain⟨φ1,S1,r1,r2,r3,r4⟩:=GG hst1 rel hmm;exact wp_mono (ihx hc hev r1 r4) fun e a2 w2 h=>h.bind r2 r3
  ·simp at hev
end
end Go.Ab
end
section
namespace Go.Ab
open Go
variable [Letters]
section
variable {P:Program} {G:bx} {raw:Nat→Bool} {N m:Nat} {call:aC} {a:Act} {φ:List bQ} {w:World} {S:Nat→Prop} {st st':St} {hp:List Ob}
theorem pM:∀(ds:List D) (n t:Nat),get (dL ds n) t=if n≤t then ds.getD (t - n) .junk else .junk
 |[],n,t=>by simp[dL,get]
 |d::r,n,t=>by
  simp only[dL,get];rw[beq_eq,pM r (n+1) t];by_cases hn:n=t
  ·subst hn;simp
  ·simp only[hn,decide_false,cond_false];by_cases hle:n≤t
   ·rw[if_pos hle,if_pos (by omega),show t - n=(t - (n+1))+1 by omega,List.getD_cons_succ]
   ·rw[if_neg hle,if_neg (by omega)]
theorem IK {ds:List D}{vs:List Value}(h:Pw (VR φ w S) ds vs)(k:Nat):JD φ w S (dL ds 0) {tmps:=vs.toArray++Array.replicate k undef,defers:=[]}:=by
 intro t;rw[pM];simp only[Nat.zero_le,if_true,Nat.sub_zero];rw[lρ];cases hd:ds[t]? with
 |none=>simp only[Option.getD_none,VR]
 |some d=>
  obtain⟨v,hv,hr⟩:=h.get hd;have hlt:t<vs.length:=by
   rcases lν t vs.length with h|h
   ·exact h
   ·simp[lδ h]at hv
  rw[Array.getD_eq_getD_getElem?,Array.getElem?_append_left (by simpa using hlt)];simp only[List.getElem?_toArray,hv,Option.getD_some];exact hr
theorem S9 (rel:np G N a φ w S st){r0:ResultVar}{r:Rv}{d:D}(hr:Uw P r0=some r)(h:Cv st r=some d):
  ∃v,(match r0 with| .tmp t=>(pure (a.tmps.getD t undef):Sem Value)| .cell x t=>do loadVar t (←asAddr (a.tmps.getD x undef))).run P w= .ok v w∧VR φ w S d v:=by
 cases r0 with
 |tmp t=>
  simp only[Uw,lα]at hr;subst hr;simp only[Cv,lα]at h;subst h;exact⟨_,rfl,rel.tmr t⟩
 |cell x t=>
  simp only[Uw]at hr;split at hr
  ·rename_i y hy;simp only[lα]at hr;subst hr;have ht:=cG hy;simp only[Cv]at h;split at h
   ·rename_i id off hb;split at h
    ·rename_i cs hcs;split at h
     ·rename_i ds hds;have hob:=dO hcs (by simp);have hv:=rel.tmr x;rw[hb]at hv;simp only[VR]at hv;obtain⟨b,hbb,hv⟩:=hv;obtain⟨vs,t',fz,h1,h2,h3,h4,_⟩:=rel.hr.obj id _ _ hbb hob;obtain⟨hl,rfl⟩:=A9 hds;obtain⟨v,e1,e2⟩:=oM ht (b:=b) (o:=off) ((h3.drop off).take y.size) (tK h4) (by have:=h3.1;simp only[mδ,lυ];omega)
       (fun j c hj=>by
        have:=j2 hj;simp only[World.cell?,h1];simpa using this) h
      refine⟨v,?_,e2⟩;simp only[hv,asAddr,Sem.run_bind,Sem.run_pure,Result.andThen_ok,e1]
     ·simp at h
    ·simp at h
   ·simp at h
  ·simp at hr
theorem Hi (rel:np G N a φ w S st):∀{l:List ResultVar} {rs:List Rv} {ds:List D},Io P l=some rs→iN st rs=some ds→
  ∃vs:List Value,(l.mapM fun(r:ResultVar)=>(match r with| .tmp t=>(pure (a.tmps.getD t undef):Sem Value)| .cell x t=>do loadVar t (←asAddr (a.tmps.getD x undef)))).run P w= .ok vs w∧Pw (VR φ w S) ds vs
 |[],rs,ds,hr,h=>by
  simp only[Io,lα]at hr;subst hr;simp only[iN,lα]at h;subst h;exact⟨[],rfl,Pw.nil⟩
 |r::l,rs,ds,hr,h=>by
  simp only[Io]at hr;split at hr
  ·rename_i x xs hx hxs;simp only[lα]at hr;subst hr;simp only[iN]at h;split at h
   ·rename_i d hd;split at h
    ·rename_i es hes;simp only[lα]at h;subst h;obtain⟨v,h1,h2⟩:=S9 (P:=P) rel hx hd;obtain⟨vs,h3,h4⟩:=Hi rel hxs hes;refine⟨v::vs,?_,Pw.cons h2 h4⟩;rw[List.mapM_cons];simp only[Sem.run_bind,h1,h3,Result.andThen_ok,Sem.run_pure]
    ·simp at h
   ·simp at h
  ·simp at hr
theorem Dx {fn:Func}{tmps:Array Value}{us:List Value}(h:(fn.results.toList.mapM fun(r:ResultVar)=>(match r with| .tmp t=>(pure (tmps.getD t undef):Sem Value)| .cell x t=>do loadVar t (←asAddr (tmps.getD x undef)))).run P w= .ok us w):
  (results fn tmps).run P w= .ok (if hh:us.toArray.size=1 then us.toArray[0]else .tuple us.toArray) w:=by
 have e:results fn tmps=(do
   let vs ←fn.results.mapM fun(r:ResultVar)=>(match r with| .tmp t=>(pure (tmps.getD t undef):Sem Value)| .cell x t=>do loadVar t (←asAddr (tmps.getD x undef)))
   pure (if h:vs.size=1 then vs[0]else .tuple vs)):=by
  unfold results;congr 1
 rw[e,Array.mapM_eq_mapM_toList];simp only[Sem.run_bind,Sem.run_map,h,Result.andThen_ok,Sem.run_pure]
theorem SV {ds:List D}{vs:List Value}(h:Pw (VR φ w S) ds vs):VR φ w S (one ds) (if hh:vs.toArray.size=1 then vs.toArray[0]else .tuple vs.toArray):=by
 have hlen:=h.1;unfold one;split
 ·rename_i d;obtain⟨v,r,rfl,h1,h2⟩:=h.cons_inv;obtain rfl:=h2.nil_inv;simpa using h1
 ·rename_i hne;have:vs.toArray.size≠1:=by
   intro hs;simp at hs;match ds,hlen with
   |[],hl=>simp at hl;omega
   |[d],_=>exact hne d rfl
   |_::_::_,hl=>simp at hl;omega
  rw[dif_neg this];simp only[VR];exact⟨_,rfl,VRs_iff.2 (by simpa using h)⟩
theorem EX:∀{ds:List D} {vs:List Value} {hp:List Ob} {S:Nat→Prop},HR φ w S hp→Pw (VR φ w S) ds vs→∃S',HR φ w S' (nt hp ds).2∧Pw (VR φ w S') (nt hp ds).1 vs∧Fr (bc φ hp) S w (bc φ (nt hp ds).2) S' w∧(nt hp ds).2.length=hp.length
 |[],vs,hp,S,hr,h=>⟨S,hr,by obtain rfl:=h.nil_inv;exact Pw.nil,Fr.refl _ _ _,rfl⟩
 |d::r,vs,hp,S,hr,h=>by
  obtain⟨v,us,rfl,h1,h2⟩:=h.cons_inv;simp only[nt];split
  ·rename_i x hx;have hz:((dids d).map fun i=>(i,aN hp i))=(dids d).zip ((dids d).map (aN hp)):=(qG (aN hp) _).symm;rw[hz]at hx ⊢
   obtain⟨k1,k2⟩:=hr.freeze (dids d);have hv:=lu hr (S':=Bu φ S hp (dids d)) (fun _ h=> .inl h) lQ _ hx h1;obtain⟨S',q1,q2,q3,q4⟩:=EX k1 (h2.mono fun _ _ hh=>gx (Ext.refl φ) (fun _ _=>rfl) (fun _ h=> .inl h) _ hh);refine⟨S',q1,Pw.cons ?_ q2,k2.trans q3,by rw[q4,bn]⟩
   simp only[VR];exact bb (fun _ _=>rfl) q3.sub _ hv
  ·obtain⟨S',q1,q2,q3,q4⟩:=EX hr h2;exact⟨S',q1,Pw.cons (gx (Ext.refl φ) (fun _ _=>rfl) q3.sub _ (G4 h1)) q2,q3,q4⟩
theorem Ss (hr:HR φ w S hp){ds:List D}{vs:List Value}(h:Pw (VR φ w S) ds vs)(hm:m≤hp.length)(fz:Bool):
  ∃φ' S',VR φ' w S' (gZ m fz ds hp).1 (if hh:vs.toArray.size=1 then vs.toArray[0]else .tuple vs.toArray)∧HR φ' w S' (gZ m fz ds hp).2∧Fr (bc φ hp) S w (bc φ' (gZ m fz ds hp).2) S' w∧∀id,id<m→φ'[id]?=φ[id]?:=by
 have key:∀(ds:List D) (hp:List Ob) (S:Nat→Prop),HR φ w S hp→Pw (VR φ w S) ds vs→m≤hp.length→∀ids,ids=close hp aW (dids.didsL ds++(hp.take m).flatMap gR) (List.range m)→
   ∃φ',VR φ' w S (mapD (idx ids) (one ds)) (if hh:vs.toArray.size=1 then vs.toArray[0]else .tuple vs.toArray)∧HR φ' w S (bt ids hp)∧Fr (bc φ hp) S w (bc φ' (bt ids hp)) S w∧∀id,id<m→φ'[id]?=φ[id]?:=by
  rintro ds hp S hr h hm ids rfl
  have hnd:=(dN (hp:=hp) aW (dids.didsL ds++(hp.take m).flatMap gR) (List.range m) List.nodup_range).1;exact⟨_,uT (nf _ φ) _ (SV h),hr.shrink hnd,(Fr.refl _ _ _).less fun b hb=>GT hr _ hb,fun id hid=>yy (by rw[hr.len];exact hm) hid⟩
 unfold gZ;cases fz with
 |false=>
  simp only[cond_false];obtain⟨φ',h1,h2,h3,h4⟩:=key ds hp S hr h hm _ rfl;exact⟨φ',S,h1,h2,h3,h4⟩
 |true=>
  simp only[cond_true];obtain⟨S',q1,q2,q3,q4⟩:=EX hr h;obtain⟨φ',h1,h2,h3,h4⟩:=key _ _ S' q1 q2 (by rw[q4];exact hm) _ rfl;exact⟨φ',S',h1,h2,q3.trans h3,h4⟩
theorem Su [Mv]{m:Nat}(hmm:m≤hp.length)(hcall:eF P G call)(hmix:P.follows .mixedOrders=true){f aO:Nat}{fn:Func}{x:Fx}(hf:P.funcs[f]?=some fn)(hx:IP P G raw fn x){ds:List D}{r:D}{out:List Ob}(hev:mR m call aO x ds hp=some (r,out))
  (hr:HR φ w S hp) (hg:GR G w S) {vs:List Value} (hv:Pw (VR φ w S) ds vs):Calls P f vs.toArray w (RetOk φ hp w S r out m):=by
 obtain⟨hb,hres⟩:=hx;cases hbody:fn.body with
 |none=>rw[hbody]at hb;simp at hb
 |some c=>
  rw[hbody]at hb;simp only at hb;have rel:np G fn.ntmps {tmps:=vs.toArray++Array.replicate (fn.ntmps - vs.toArray.size) undef,defers:=[]} φ w S ⟨dL ds 0,hp⟩:=⟨IK hv _,hg,hr,by simp;omega,rfl⟩
  have gZ:∀{ex:Ex} {st1:St} {es:List D},bT call aO m x.body ⟨dL ds 0,hp⟩=some (ex,st1)→(ex= .norm∨ex= .ret)→iN st1 x.res=some es→(r,out)=gZ m x.fz es st1.hp→Calls P f vs.toArray w (RetOk φ hp w S r out m):=by
   intro ex st1 es h1 hex h2 h3;refine calls_of_wp hf hbody (wp_mono (TH (m:=m) hcall hmix x.body hb h1 rel hmm) ?_);rintro e a1 w1 ⟨he,φ1,S1,r1,r2,r3,r4⟩;have fin2:a1.defers=[]∧∃v,(results fn a1.tmps).run P w1= .ok v w1∧RetOk φ hp w S r out m (.returned v) w1:=by
    refine⟨r1.defers,?_⟩;obtain⟨us,g1,g2⟩:=Hi (P:=P) r1 hres h2;obtain⟨φ2,S2,q1,q2,q3,q4⟩:=Ss r1.hr g2 r4 x.fz;rw[←h3]at q1 q2 q3;refine⟨_,?_,φ2,S2,q1,q2,r2.trans q3,fun id hid=>(q4 id hid).trans (r3 id hid)⟩
    exact Dx g1
   cases e with
   |normal=>exact fin2
   |ret=>exact fin2
   |exit i=>simp only[xg]at he;rcases hex with rfl|rfl<;>simp at he
   |goto l=>exact he.elim
   |panic ch=>exact he.elim
   |outgrown=>exact he.elim
  unfold mR at hev;split at hev
  ·rename_i st1 h1;split at hev
   ·rename_i es h2;simp only[lα]at hev;exact gZ h1 (.inl rfl) h2 hev.symm
   ·simp at hev
  ·rename_i st1 h1;split at hev
   ·rename_i es h2;simp only[lα]at hev;exact gZ h1 (.inr rfl) h2 hev.symm
   ·simp at hev
  ·simp at hev
def gW (P:Program)(G:bx)(f:Nat)(g:List Da→Option (D×List Ob)):Prop:=
 ∀xs r out,g xs=some (r,out)→cS P f∧∀w S vs,(∀b,S b→b<w.heap.size)→GR G w S→Pw (PR w S) xs vs→Calls P f vs.toArray w (RetOk [] [] w S r out 0)
def Tu [Mv](P:Program)(G:bx)(f:Nat)(g:List D→List Ob→Option (D×List Ob)):Prop:=
 ∀ds hp r out,g ds hp=some (r,out)→cS P f∧∀φ w S vs,HR φ w S hp→GR G w S→Pw (VR φ w S) ds vs→Calls P f vs.toArray w (RetOk φ hp w S r out (dU f ds hp.length))
structure sa [Mv](P:Program)(G:bx)(tab:Nat→Option Fn):Prop where
 code : ∀ f x, tab f = some (.code x) → ∃ fn raw, P.funcs[f]? = some fn ∧ IP P G raw fn x ∧ (fn.name == "runtime.NumGoroutine") = false
 prim:∀f g,tab f=some (.prim g)→gW P G f g
 both : ∀ f g x, tab f = some (.both g x) → gW P G f g ∧ ∃ fn raw, P.funcs[f]? = some fn ∧ IP P G raw fn x ∧ (fn.name == "runtime.NumGoroutine") = false
 any:∀f g,tab f=some (.any g)→Tu P G f g
theorem rh [Mv] (hmix : P.follows .mixedOrders = true) {call : aC} (hc : eF P G call) {f aO : Nat} {fn : Func} {raw : Nat → Bool} {x : Fx} (h1 : P.funcs[f]? = some fn) (h2 : IP P G raw fn x) (h3 : (fn.name == "runtime.NumGoroutine") = false) {ds : List D} {hp : List Ob} {r : D} {out : List Ob} (h : mR (dU f ds hp.length) call aO x ds hp = some (r, out)) :
  cS P f∧∀φ w S vs,HR φ w S hp→GR G w S→Pw (VR φ w S) ds vs→Calls P f vs.toArray w (RetOk φ hp w S r out (dU f ds hp.length)):=by
 refine⟨⟨fn,h1,?_,h3⟩,fun φ w S vs hr hg hv=>Su (pV _ _ _) hc hmix h1 h2 h hr hg hv⟩
 cases hb:fn.body with
 |none=>obtain⟨h4,_⟩:=h2;rw[hb]at h4;simp at h4
 |some c=>rfl
theorem yR {f:Nat}{g:List Da→Option (D×List Ob)}(hg:gW P G f g){ds:List D}{xs:List Da}(hxs:fW ds=some xs){r:D}{out:List Ob}(h:g xs=some (r,out)):
  cS P f∧∀φ w S vs,HR φ w S []→GR G w S→Pw (VR φ w S) ds vs→Calls P f vs.toArray w (RetOk φ [] w S r out 0):=by
 obtain⟨h1,h2⟩:=hg xs r out h;refine⟨h1,fun φ w S vs hr hgr hv=>?_⟩
 have hφ:φ=[]:=lθ (by rw[hr.len];rfl);subst hφ;exact h2 w S vs hr.low hgr (pm hxs hv)
theorem pI [Mv](hmix:P.follows .mixedOrders=true){tab:Nat→Option Fn}(ht:sa P G tab):∀n,eF P G (evFn tab n)
 |0=>by intro f ds hp r out h;simp[evFn]at h
 |n+1=>by
  intro f ds hp r out h;simp only[evFn]at h;split at h
  ·rename_i x hx;obtain⟨fn,raw,h1,h2,h3⟩:=ht.code f x hx;exact rh hmix (pI hmix ht n) h1 h2 h3 h
  ·rename_i g hg;split at h
   ·rename_i xs hxs;split at h
    ·rw[List.length_nil,vL];exact yR (ht.prim f g hg) hxs h
    ·simp at h
   ·simp at h
  ·rename_i g x hx;obtain⟨hg,fn,raw,h1,h2,h3⟩:=ht.both f g x hx;split at h
   ·rename_i xs hxs;split at h
    ·rw[List.length_nil,vL];exact yR hg hxs h
    ·exact rh hmix (pI hmix ht n) h1 h2 h3 h
   ·exact rh hmix (pI hmix ht n) h1 h2 h3 h
  ·rename_i g hg;exact ht.any f g hg ds hp r out h
  ·simp at h
end
end Go.Ab
end
