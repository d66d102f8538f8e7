import Derived.Test.YtlfhmmbmjkadiaaGreatDoorAm1
import Derived.Laws.Externs
import Derived.Orders
set_option linter.all false
section
namespace Go.Ab
open Go
variable [Letters]
def Ren (σ:Nat→Option Nat)(φ φ':List cH):Prop:=∀i j,σ i=some j→∀l,φ[i]?=some l→l≠ .none→φ'[j]?=some l
mutual
theorem EA {σ:Nat→Option Nat}{φ φ':List cH}{w:World}{S:Nat→Prop}(hσ:Ren σ φ φ'):∀(d:D) {v:Value},VR φ w S d v→VR φ' w S (mapD σ d) v
 | .p x,v,h=>by simpa only[mapD,VR]using h
 | .agg ds,v,h=>by
  simp only[mapD,VR]at h ⊢
  obtain⟨vs,rfl,h1,h2⟩:=h;exact⟨vs,rfl,xl hσ ds h1,h2⟩
 | .tup ds,v,h=>by
  simp only[mapD,VR]at h ⊢
  obtain⟨vs,rfl,h1⟩:=h;exact⟨vs,rfl,xl hσ ds h1⟩
 | .box id off,v,h=>by
  simp only[mapD];split
  ·rename_i j hj;simp only[VR]at h ⊢
   obtain⟨b,h1,rfl⟩:=h;exact⟨b,hσ _ _ hj _ h1 (by simp),rfl⟩
  ·simp only[VR]
 | .el id i off,v,h=>by
  simp only[mapD];split
  ·rename_i j hj;simp only[VR]at h ⊢
   obtain⟨b,o,cap,z,n,h1,h2,rfl⟩:=h;exact⟨b,o,cap,z,n,hσ _ _ hj _ h1 (by simp),h2,rfl⟩
  ·simp only[VR]
 | .ip x off,v,h=>by simpa only[mapD,VR]using h
 | .arr id lo len z,v,h=>by
  simp only[mapD];split
  ·rename_i j hj;simp only[VR]at h ⊢
   obtain⟨b,o,cap,n,a,h1,h2⟩:=h;exact⟨b,o,cap,n,a,hσ _ _ hj _ h1 (by simp),h2⟩
  ·simp only[VR]
 | .sl g z es,v,h=>by simpa only[mapD,VR]using h
 | .map id,v,h=>by
  simp only[mapD];split
  ·rename_i j hj;simp only[VR]at h ⊢
   obtain⟨r,h1,rfl⟩:=h;exact⟨r,hσ _ _ hj _ h1 (by simp),rfl⟩
  ·simp only[VR]
 | .fn f caps,v,h=>by
  simp only[mapD,VR]at h ⊢
  obtain⟨fs,cs,rfl,hk,h1⟩:=h;exact⟨fs,cs,rfl,hk,xl hσ caps h1⟩
 | .iface t d,v,h=>by
  simp only[mapD,VR]at h ⊢
  obtain⟨u,rfl,h1⟩:=h;exact⟨u,rfl,EA hσ d h1⟩
 | .junk,v,h=>by simp only[mapD,VR]
theorem xl {σ:Nat→Option Nat}{φ φ':List cH}{w:World}{S:Nat→Prop}(hσ:Ren σ φ φ'):∀(ds:List D) {vs:List Value},C2 φ w S ds vs→C2 φ' w S (mapD.mapDL σ ds) vs
 |[],vs,h=>by simpa only[mapD.mapDL,C2]using h
 |d::r,vs,h=>by
  simp only[mapD.mapDL,C2]at h ⊢
  obtain⟨u,us,rfl,h1,h2⟩:=h;exact⟨u,us,rfl,EA hσ d h1,xl hσ r h2⟩
end
theorem Rc {σ:Nat→Option Nat}{φ φ':List cH}{w:World}{S:Nat→Prop}(hσ:Ren σ φ φ'){ds:List D}{vs:List Value}(h:Pw (VR φ w S) ds vs):Pw (VR φ' w S) (mapD.mapDL σ ds) vs:=
 VRs_iff.1 (xl hσ ds (VRs_iff.2 h))
theorem XL {σ:Nat→Option Nat}{φ φ':List cH}{w:World}{S:Nat→Prop}(hσ:Ren σ φ φ'){l:cH}{o:Ob}(h:OR φ w S l o):OR φ' w S l (ct σ o):=by
 cases o with
 |box cs=>
  cases l with
  |box b=>
   simp only[OR]at h;simp only[ct,OR];obtain⟨vs,t,fz,h1,h2,h3,h4⟩:=h;exact⟨vs,t,fz,h1,h2,Rc hσ h3,h4⟩
  |_=>simp only[OR]at h
 |arr es=>cases l<;>simpa only[OR,ct]using h
 |fz es=>cases l<;>simpa only[OR,ct]using h
 |map ks vs=>cases l<;>simpa only[OR,ct]using h
 |fzm ks vs=>cases l<;>simpa only[OR,ct]using h
 |mapd ks vs=>
  cases l with
  |map r=>
   simp only[OR]at h;simp only[ct,OR];obtain⟨es,c,h1,h2,h3⟩:=h;exact⟨es,c,h1,h2,Rc hσ h3⟩
  |_=>simp only[OR]at h
 |dead=>cases l<;>simp only[OR,ct]
 |unborn=>cases l<;>simpa only[OR,ct]using h
theorem yx (σ:Nat→Option Nat)(l:cH)(o:Ob):bY l (ct σ o)=bY l o:=by
 cases o<;>cases l<;>rfl
theorem aau {id:Nat}:∀{ids:List Nat} {n j:Nat},idx.go id ids n=some j→n≤j∧ids[j - n]?=some id
 |[],n,j,h=>by simp[idx.go]at h
 |x::r,n,j,h=>by
  simp only[idx.go]at h;rw[beq_eq]at h;by_cases hx:x=id
  ·simp[hx]at h;subst h;simp[hx]
  ·simp[hx]at h;obtain⟨h1,h2⟩:=aau h;refine⟨by omega,?_⟩
   rw[show j - n=(j - (n+1))+1 by omega,List.getElem?_cons_succ];exact h2
theorem OF {ids:List Nat}{id j:Nat}(h:idx ids id=some j):ids[j]?=some id:=by
 have:=(aau (n:=0) h).2;simpa using this
theorem Fd {id:Nat}:∀{ids:List Nat} {n:Nat},id∈ids→∃j,idx.go id ids n=some j
 |[],n,h=>by simp at h
 |x::r,n,h=>by
  simp only[idx.go];rw[beq_eq];by_cases hx:x=id
  ·simp[hx]
  ·simp only[hx,decide_false,cond_false];exact Fd ((mγ.1 h).resolve_left fun e=>hx e.symm)
theorem IE {ids:List Nat}(h:ids.Nodup){i j x:Nat}(hi:ids[i]?=some x)(hj:ids[j]?=some x):i=j:=by
 have hlt:i<ids.length:=by
  rcases lπ i ids.length with h1|h1
  ·exact h1
  ·simp[lθ h1]at hi
 exact(List.getElem?_inj hlt h).1 (hi.trans hj.symm)
theorem R7 {ids:List Nat}(h:ids.Nodup){id k:Nat}(hk:ids[k]?=some id):idx ids id=some k:=by
 obtain⟨j,hj⟩:=Fd (n:=0) (mι hk);have hj':idx ids id=some j:=hj;rw[hj',IE h (OF hj') hk]
def lP (ids:List Nat)(φ:List cH):List cH:=ids.map fun i=>φ.getD i .none
theorem ua (ids:List Nat)(φ:List cH):Ren (idx ids) φ (lP ids φ):=by
 intro i j hj l hl _;have:=OF hj;simp[lP,this,hl]
section
variable {φ:List cH} {w:World} {S:Nat→Prop} {hp:List Ob}
theorem Df {ids:List Nat}(hr:HR φ w S hp){k:Nat}{l:cH}{o:Ob}(h1:(lP ids φ)[k]?=some l)(h2:(cb ids hp)[k]?=some o):∃i,ids[k]?=some i∧((φ[i]?=some l∧∃o0,hp[i]?=some o0∧o=ct (idx ids) o0)∨(φ[i]?=none∧l= .none∧o= .dead)):=by
 simp only[lP,cb,lχ,mχ]at h1 h2;obtain⟨i,hi,rfl⟩:=h1;obtain⟨i',hi',rfl⟩:=h2;rw[hi]at hi';simp at hi';subst hi';refine⟨i,hi,?_⟩;rcases lπ i hp.length with hlt|hge
 ·have h3:i<φ.length:=by rw[hr.len];exact hlt
  refine .inl ⟨by simp[lγ h3],hp[i],lγ hlt,?_⟩
  rw[Dj (lγ hlt)]
 ·have h3:φ.length≤i:=by rw[hr.len];exact hge
  refine .inr ⟨lθ h3,by simp[lθ h3],?_⟩
  simp[bc,lθ hge,ct]
theorem wk {ids:List Nat}(hr:HR φ w S hp){b:Nat}(h:bC (lP ids φ) (cb ids hp) b):vQ φ hp (· ∈ids) b:=by
 obtain⟨k,l,o,h1,h2,h3⟩:=h;obtain⟨i,hi,(⟨g1,o0,g2,rfl⟩|⟨_,rfl,rfl⟩)⟩:=Df hr h1 h2
 ·rw[yx]at h3;exact⟨i,l,o0,mι hi,g1,g2,h3⟩
 ·simp[bY]at h3
theorem HR.shrink (hr:HR φ w S hp){ids:List Nat}(hnd:ids.Nodup):HR (lP ids φ) w S (cb ids hp) where
 len:=by simp[lP,cb]
 obj k l o h1 h2:=by
  obtain⟨i,hi,(⟨g1,o0,g2,rfl⟩|⟨_,rfl,rfl⟩)⟩:=Df hr h1 h2
  ·exact XL (ua ids φ) (hr.obj i l o0 g1 g2)
  ·simp only[OR]
 own b hb:=by
  obtain⟨i,l,o,_,h1,h2,h3⟩:=wk hr hb;exact hr.own b ⟨i,l,o,h1,h2,h3⟩
 one k k' l l' o o' b h1 h2 h1' h2' h3 h3':=by
  obtain⟨i,hi,(⟨g1,o0,g2,rfl⟩|⟨_,rfl,rfl⟩)⟩:=Df hr h1 h2
  ·obtain⟨i',hi',(⟨g1',o0',g2',rfl⟩|⟨_,rfl,rfl⟩)⟩:=Df hr h1' h2'
   ·rw[yx]at h3 h3';have:=hr.one i i' l l' o0 o0' b g1 g2 g1' g2' h3 h3';subst this;exact IE hnd hi hi'
   ·simp[bY]at h3'
  ·simp[bY]at h3
 low:=hr.low
theorem TZ (hr:HR φ w S hp)(ids:List Nat){b:Nat}(h:bC (lP ids φ) (cb ids hp) b):bC φ hp b:=by
 obtain⟨i,l,o,_,h1,h2,h3⟩:=wk hr h;exact⟨i,l,o,h1,h2,h3⟩
end
theorem gt {hp:List Ob}:∀(n:Nat) (ws acc:List Nat),acc.Nodup→(cr hp n ws acc).Nodup∧acc <+: cr hp n ws acc
 |0,ws,acc,h=>by simp only[cr];exact⟨h,List.prefix_refl _⟩
 |n+1,[],acc,h=>by simp only[cr];exact⟨h,List.prefix_refl _⟩
 |n+1,id::ws,acc,h=>by
  simp only[cr];split
  ·exact gt n ws acc h
  ·rename_i hc;have hni:id∉acc:=by simpa using hc
   obtain⟨h1,h2⟩:=gt (hp:=hp) n (lR (hp.getD id .dead)++ws) (acc++[id]) (by
    rw[List.nodup_append];refine⟨h,by simp,?_⟩
    intro a ha b hb e;simp at hb;exact hni (hb▸e▸ha))
   exact⟨h1,(List.prefix_append _ _).trans h2⟩
theorem N7 {hp:List Ob}{n m:Nat}{ws:List Nat}{k:Nat}(hk:k<m):(cr hp n ws (List.range m))[k]?=some k:=by
 obtain⟨r,hr⟩:=(gt (hp:=hp) n ws (List.range m) List.nodup_range).2;rw[←hr,lκ (by simpa using hk)];simp[hk]
theorem It {hp:List Ob}{φ:List cH}{n m:Nat}{ws:List Nat}(hm:m≤φ.length){id:Nat}(hid:id<m):(lP (cr hp n ws (List.range m)) φ)[id]?=φ[id]?:=by
 simp only[lP,lχ,N7 hid,Option.map_some];rw[lρ,lγ (by omega:id<φ.length)];rfl
theorem E9 {out:List Nat}{f:D→D}{tm:Tm}{t:Nat}:get (fq out f tm) t=if t∈out then f (get tm t)else .junk:=by
 induction out with
 |nil=>simp[fq,get]
 |cons s r ih=>
  simp only[fq,get];rw[beq_eq];by_cases hs:s=t
  ·subst hs;simp
  ·have:t≠s:=fun e=>hs e.symm
   simp[hs,this,ih]
end Go.Ab
end
section
namespace Go.Ab
open Go
variable [Letters]
def RetOk (φ:List cH)(hp:List Ob)(w:World)(S:Nat→Prop)(r:D)(out:List Ob)(m:Nat):Ending→World→Prop
 | .returned v,w'=>∃φ' S',VR φ' w' S' r v∧HR φ' w' S' out∧Fr (bC φ hp) S w (bC φ' out) S' w'∧∀id,id<m→φ'[id]?=φ[id]?
 |_,_=>False
def fB (P : Program) (f : Nat) : Prop := ∃ fn, P.funcs[f]? = some fn ∧ fn.body.isNone = false ∧ (fn.name == "runtime.NumGoroutine") = false
def dV [Mv](P:Program)(G:ce)(call:aL):Prop:=
 ∀f ds hp r out,call f ds hp=some (r,out)→fB P f∧∀φ w S vs,HR φ w S hp→GR G w S→Pw (VR φ w S) ds vs→Calls P f vs.toArray w (RetOk φ hp w S r out (fA f ds hp.length))
theorem xZ [Mv](f:Nat)(ds:List D)(n:Nat):fA f ds n≤n:=by
 unfold fA;cases Mv.mv f
 ·exact Nat.le_refl _
 ·exact Nat.min_le_right _ _
theorem Fh [Mv](f:Nat)(ds:List D):fA f ds 0=0:=Nat.le_zero.1 (xZ f ds 0)
theorem Sa [Mv]{f:Nat}(h:Mv.mv f=false)(ds:List D)(n:Nat):fA f ds n=n:=by
 unfold fA;rw[h];rfl
theorem RetOk.le {φ:List cH}{hp:List Ob}{w:World}{S:Nat→Prop}{r:D}{out:List Ob}{m m':Nat}(hm:m'≤m){e:Ending}{w':World}(h:RetOk φ hp w S r out m e w'):RetOk φ hp w S r out m' e w':=by
 cases e with
 |returned v=>
  obtain⟨φ',S',h1,h2,h3,h4⟩:=h;exact⟨φ',S',h1,h2,h3,fun id hid=>h4 id (by omega)⟩
 |panicked c=>exact h
 |outgrown=>exact h
section
variable {P:Program} {G:ce} {φ:List cH} {w:World} {S:Nat→Prop} {hp:List Ob} {d:D} {ups:List (Nat×Ob)} {new:List Ob}
theorem SP (ids:List Nat)(hp:List Ob):(ids.map (bc hp)).map (ct (idx ids))=cb ids hp:=by
 simp[cb,List.map_map]
def Xi (m:Nat)(ids:List Nat)(os:List Ob):List (Nat×Ob):=(ids.take m).zip os++(ids.drop m).map fun i=>(i,.dead)
def atM (m:Nat)(ids:List Nat)(os:List Ob)(i:Nat):Ob:=bif Nat.blt ((idx ids i).getD 0) m then os.getD ((idx ids i).getD 0) .dead else .dead
theorem UP {m:Nat}{ids:List Nat}(hnd:ids.Nodup){os:List Ob}(hm:m≤ids.length)(hle:m≤os.length):Xi m ids os=ids.map fun i=>(i,atM m ids os i):=by
 unfold Xi;have hz:∀k:Nat,((ids.take m).zip os)[k]?=((ids.take m)[k]?).bind fun i=>(os[k]?).map fun o=>(i,o):=by
  intro k;simp only[List.zip];rw[List.getElem?_zipWith];cases(ids.take m)[k]?<;>cases os[k]?<;>rfl
 have hzl:((ids.take m).zip os).length=m:=by simp[mν];omega
 apply List.ext_getElem?;intro k;rw[lχ];by_cases hk:k<m
 ·have hki:k<ids.length:=by omega
  have hko:k<os.length:=by omega
  rw[lκ (by omega),hz,List.getElem?_take,if_pos hk,lγ hki];have hat:ids[k]?=some ids[k]:=lγ hki;have hbl:Nat.blt k m=true:=by rw[blt_eq];simpa using hk
  simp only[Option.bind_some,lγ hko,Option.map_some,atM,R7 hnd hat,Option.getD_some,hbl,cond_true,lρ]
 ·rw[lσ (by omega),hzl,lχ,List.getElem?_drop,show m+(k - m)=k by omega];cases hki:ids[k]? with
  |none=>rfl
  |some i=>
   have hbl:Nat.blt k m=false:=by rw[blt_eq];simpa using hk
   simp only[Option.map_some,atM,R7 hnd hki,Option.getD_some,hbl,cond_false]
theorem acE {m:Nat}{ids:List Nat}(hnd:ids.Nodup){out:List Ob}(hm:m≤ids.length)(hle:m≤out.length){φ':List cH}(hl:φ'.length=out.length)(hlen:φ.length=hp.length)(hlow:∀k,k<m→φ'[k]?=(lP ids φ)[k]?){σ:Nat→Option Nat}{id:Nat}{l:cH}{o:Ob}
  (hc:id∈ids∨hp.length≤id) (h1:(φ++φ'.drop m)[id]?=some l) (h2:(grow (aA hp (Xi m ids (out.map (ct σ)))) ((out.map (ct σ)).drop m))[id]?=some o):
  o= .dead∨∃k o0,φ'[k]?=some l∧out[k]?=some o0∧o=ct σ o0∧((id<hp.length∧k<m∧ids[k]?=some id)∨(hp.length≤id∧k=m+(id - hp.length))):=by
 have hgrow:∀(a b:List Ob),grow a b=a++b:=by intro a b;cases b<;>simp[grow]
 rw[hgrow]at h2;by_cases hlt:id<hp.length
 ·have hmem:=hc.resolve_right (by omega);obtain⟨k,hk⟩:=List.getElem?_of_mem hmem;have hkl:k<ids.length:=by
   rcases lπ k ids.length with h|h
   ·exact h
   ·simp[lθ h]at hk
  rw[lκ (by rw[bQ];exact hlt),UP hnd hm (by simpa using hle),ge (g:=atM m ids (out.map (ct σ))),if_pos ⟨hmem,hlt⟩]at h2;rw[lκ (by omega)]at h1;simp only[atM,R7 hnd hk,Option.getD_some]at h2;by_cases hkm:k<m
  ·have hko:k<out.length:=by omega
   have hbl:Nat.blt k m=true:=by rw[blt_eq];simpa using hkm
   rw[hbl]at h2;refine .inr ⟨k,out[k],?_,lγ hko,?_,.inl ⟨hlt,hkm,hk⟩⟩
   ·rw[hlow k hkm];simp[lP,hk,h1]
   ·simp[hko]at h2;exact h2.symm
  ·have hbl:Nat.blt k m=false:=by rw[blt_eq];simpa using hkm
   rw[hbl]at h2;simp only[cond_false,lα]at h2;exact .inl h2.symm
 ·have hge:hp.length≤id:=Nat.le_of_not_lt hlt;rw[lσ (by rw[bQ];exact hge),bQ,List.getElem?_drop,lχ,mχ]at h2;rw[lσ (by omega),List.getElem?_drop,hlen]at h1;obtain⟨o0,ho,rfl⟩:=h2;exact .inr ⟨m+(id - hp.length),o0,h1,ho,rfl,.inr ⟨hge,rfl⟩⟩
theorem ES {call:aL}(hr:HR φ w S hp)(hg:GR G w S){f m:Nat}{ds:List D}{vs:List Value}(hv:Pw (VR φ w S) ds vs){ids:List Nat}(hnd:ids.Nodup)(hm:m≤ids.length)
  (hcall:∀r out,call f (mapD.mapDL (idx ids) ds) (cb ids hp)=some (r,out)→fB P f∧∀φ w S vs,HR φ w S (cb ids hp)→GR G w S→Pw (VR φ w S) (mapD.mapDL (idx ids) ds) vs→Calls P f vs.toArray w (RetOk φ (cb ids hp) w S r out m))
  (h:mo call f ds m ids (ids.map (bc hp)) hp.length=some (d,ups,new)):
  fB P f∧Calls P f vs.toArray w (RetOk φ hp w S d (grow (aA hp ups) new) hp.length):=by
 unfold mo at h;rw[SP]at h;split at h
 ·simp at h
 ·rename_i r out hcl;rw[ble_eq]at h;by_cases hle:m≤out.length
  ·simp only[hle,decide_true,cond_true,lα,lε]at h;obtain⟨rfl,rfl,rfl⟩:=h;refine⟨(hcall r out hcl).1,((hcall r out hcl).2 (lP ids φ) w S vs (hr.shrink hnd) hg (Rc (ua ids φ) hv)).mono fun e w' he=>?_⟩
   cases e with
   |panicked c=>exact he
   |outgrown=>exact he
   |returned v=>
    obtain⟨φ',S',h1,h2,h3,h4⟩:=he;have hlen:=hr.len;have hl:=h2.len;have hgrow:∀(a b:List Ob),grow a b=a++b:=by intro a b;cases b<;>simp[grow]
    have hlo:∀id,id<hp.length→(φ++φ'.drop m)[id]?=φ[id]?:=fun id hid=>lκ (by omega)
    have hups:((ids.take m).zip (out.map (ct (back m hp.length ids out.length)))++(ids.drop m).map fun i=>(i,.dead))=Xi m ids (out.map (ct (back m hp.length ids out.length))):=rfl
    rw[hups]
    -- the callee's names,back to the caller's
    have hren:Ren (back m hp.length ids out.length) φ' (φ++φ'.drop m):=by
     intro k j hj l hl1 hn;unfold back at hj;rw[blt_eq,blt_eq]at hj;by_cases hk:k<m
     ·simp only[hk,decide_true,cond_true]at hj;rw[h4 k hk]at hl1;simp only[lP,lχ,hj,Option.map_some,lα]at hl1;rcases lπ j φ.length with hjl|hjl
      ·rw[lκ hjl,lγ hjl];rw[lρ,lγ hjl]at hl1;simpa using hl1
      ·rw[lρ,lθ hjl]at hl1;exact absurd hl1.symm hn
     ·simp only[hk,decide_false,cond_false]at hj;by_cases hk2:k<out.length
      ·simp only[hk2,decide_true,cond_true,lα]at hj;subst hj;rw[lσ (by omega),List.getElem?_drop];rw[show m+(hp.length+(k - m) - φ.length)=k by omega];exact hl1
      ·simp[hk2]at hj
    have hext:Ext φ (φ++φ'.drop m):=by
     intro id l hl1 _;have:id<φ.length:=by
      rcases lπ id φ.length with h|h
      ·exact h
      ·simp[lθ h]at hl1
     rw[lκ this];exact hl1
    have hoc:∀b,bC (lP ids φ) (cb ids hp) b→vQ φ hp (fun id=>id∈ids∨hp.length≤id) b:=by
     intro b hb;obtain⟨i,l,o,hc,g1,g2,g3⟩:=wk hr hb;exact⟨i,l,o,.inl hc,g1,g2,g3⟩
    have hat:=fun {id l o} (hc:id∈ids∨hp.length≤id) (q1:(φ++φ'.drop m)[id]?=some l) (q2:(grow (aA hp (Xi m ids (out.map (ct (back m hp.length ids out.length))))) ((out.map (ct (back m hp.length ids out.length))).drop m))[id]?=some o)=>
     acE hnd hm hle hl hlen h4 hc q1 q2
    have hdead:∀{l:cH} {b:Nat},bY l .dead=some b→False:=fun {l b} h=>by cases l<;>simp[bY]at h
    obtain⟨k1,k2⟩:=hr.gen (φ':=φ++φ'.drop m) (hp':=grow (aA hp (Xi m ids (out.map (ct (back m hp.length ids out.length))))) ((out.map (ct (back m hp.length ids out.length))).drop m)) (S':=S') (w':=w') (fun id=>id∈ids∨hp.length≤id)
     (by rw[hgrow];simp[bQ];omega)
     (fun id hc=>by
      simp only[not_or,Nat.not_le]at hc;refine⟨hlo id hc.2,?_⟩;rw[hgrow,lκ (by rw[bQ];exact hc.2),UP hnd hm (by simpa using hle),ge (g:=atM m ids (out.map (ct (back m hp.length ids out.length)))),if_neg (fun hh=>hc.1 hh.1)])
     hext
     (fun b hb hc=>h3.keep b hb fun ho=>hc (hoc b ho)) h3.size h3.os h3.tape h3.output h3.sub
     (fun b hb=>(h3.news b hb).imp_right (·.imp_left (hoc b))) h2.low
     (fun id l o hc q1 q2=>by
      rcases hat hc q1 q2 with rfl|⟨k,o0,g1,g2,rfl,_⟩
      ·simp only[OR]
      ·exact XL hren (h2.obj k l o0 g1 g2))
     (fun id l o b hc q1 q2 q3=>by
      rcases hat hc q1 q2 with rfl|⟨k,o0,g1,g2,rfl,_⟩
      ·exact(hdead q3).elim
      rw[yx]at q3;have hOw:bC φ' out b:=⟨k,l,o0,g1,g2,q3⟩;exact⟨(h3.newo b hOw).imp_left (hoc b),(h2.own b hOw).2,(h2.own b hOw).1⟩)
     (fun id id' l l' o o' b hc hc' q1 q2 q1' q2' q3 q3'=>by
      rcases hat hc q1 q2 with rfl|⟨k,o0,g1,g2,rfl,gk⟩
      ·exact(hdead q3).elim
      rcases hat hc' q1' q2' with rfl|⟨k',o0',g1',g2',rfl,gk'⟩
      ·exact(hdead q3').elim
      rw[yx]at q3 q3';have:=h2.one k k' l l' o0 o0' b g1 g2 g1' g2' q3 q3';subst this;rcases gk with⟨a1,a3,a2⟩|⟨a1,a2⟩<;>rcases gk' with⟨b1,b3,b2⟩|⟨b1,b2⟩
      ·rw[a2]at b2;simpa using b2
      ·omega
      ·omega
      ·omega)
    exact⟨_,S',EA hren r h1,k1,k2,hlo⟩
  ·simp[hle]at h
theorem Ig (call:aL)(f:Nat)(ds:List D)(ids:List Nat)(obs:List Ob)(len:Nat):eP call f ds ids obs len=mo call f ds ids.length ids obs len:=by
 unfold eP mo;simp only[List.take_length,List.drop_length,List.map_nil,mε]
theorem Zt [Mv]{call:aL}(hcall:dV P G call)(hr:HR φ w S hp)(hg:GR G w S){f:Nat}{ds:List D}{vs:List Value}(hv:Pw (VR φ w S) ds vs){ids:List Nat}(hnd:ids.Nodup)
  (h:xu call f ds ids (ids.map (bc hp)) hp.length=some (d,ups,new)):
  fB P f∧Calls P f vs.toArray w (RetOk φ hp w S d (grow (aA hp ups) new) hp.length):=by
 have hsl:(cb ids hp).length=ids.length:=by simp[cb]
 unfold xu at h;cases hmv:Mv.mv f
 ·rw[hmv]at h;simp only[cond_false]at h;rw[Ig]at h;refine ES hr hg hv hnd (Nat.le_refl _) (fun r out hc=>?_) h;have:=hcall f _ _ r out hc;rw[Sa hmv,hsl]at this;exact this
 ·rw[hmv]at h;simp only[cond_true]at h;refine ES hr hg hv hnd (xZ _ _ _) (fun r out hc=>?_) h;have:=hcall f _ _ r out hc;rw[hsl]at this;exact this
end
end Go.Ab
end
section
namespace Go.Ab
open Go
variable [Letters]
structure uR (G:ce)(N:Nat)(a:Act)(φ:List cH)(w:World)(S:Nat→Prop)(st:St):Prop where
 tmr:Xl φ w S st.tm a
 gr:GR G w S
 hr:HR φ w S st.hp
 size:N≤a.tmps.size
 defers:a.defers=[]
theorem uR.cx {G:ce}{N:Nat}{a:Act}{φ:List cH}{w:World}{S:Nat→Prop}{st:St}(h:uR G N a φ w S st):Cx G a φ w S st.hp st.tm:=⟨h.tmr,h.gr,h.hr⟩
theorem Pj {φ:List cH}{w:World}{S:Nat→Prop}{d:D}{v:Value}(h:VR φ w S d v):VR φ w S (Ph d) v:=by
 cases d<;>simp only[Ph]<;>first
  |exact h
  |(
    simp only[VR]at h;obtain⟨a,cap,us,rfl,h1,_,h3,h4⟩:=h;simp only[VR,PR];exact⟨a,cap,us,rfl,h1,h3,h4⟩)
theorem Pi {φ:List cH}{w:World}{S:Nat→Prop}{ds:List D}{vs:List Value}(h:Pw (VR φ w S) ds vs):Pw (VR φ w S) (ds.map Ph) vs:=
 Pw.map_left (h.mono fun _ _ hh=>Pj hh)
theorem Ug {φ:List cH}{w:World}{S:Nat→Prop}{d:D}{v:Value}(h:VR φ w S d v):VR φ w S (norm d) v:=by
 cases d with
 |sl g z es=>exact Pj h
 |agg ds=>
  simp only[VR]at h;obtain⟨vs,rfl,h1,h2⟩:=h;have:=tj (Pi (VRs_iff.1 h1)) h2;rwa [Array.toArray_toList]at this
 |tup ds=>
  simp only[VR]at h;obtain⟨vs,rfl,h1⟩:=h;simp only[norm,VR];exact⟨vs,rfl,VRs_iff.2 (Pi (VRs_iff.1 h1))⟩
 |_=>exact h
theorem Lk {φ:List cH}{w:World}{S:Nat→Prop}{ds:List D}{vs:List Value}(h:Pw (VR φ w S) ds vs):Pw (VR φ w S) (ds.map norm) vs:=
 Pw.map_left (h.mono fun _ _ hh=>Ug hh)
section
variable {P:Program} {G:ce} {N:Nat} {o:Oper} {a:Act} {φ:List cH} {w:World} {S:Nat→Prop} {hp:List Ob} {tm:Tm} {st st':St} {base:Nat}
theorem EZ {c:Call}{x:Operand}{f:Nat}{fs cs:Array Value}(ho:o.op= .call c)(hc:c.callee= .value x)(hx:a.eval x= .func (.func f) fs cs):
  (execOp a.eval o).run P w=(callFunc f (fs++c.args.map a.eval++cs)).run P w:=by
 simp[execOp,ho,resolve,hc,hx,Deferred.ofValue,invoke]
theorem wc {c:Call}{x:Operand}{f:Nat}{fs cs:Array Value}(ho:o.op= .call c)(hc:c.callee= .value x)(hx:a.eval x= .func (.func f) fs cs)(hf:fB P f):
  (execOp a.eval o).run P w= .ok (.enter f (fs++c.args.map a.eval++cs)) w:=by
 rw[EZ ho hc hx];obtain⟨fn,h1,h2,h3⟩:=hf;have h4 : fn.name ≠ "runtime.NumGoroutine" := by simpa using h3
 have h5:fn.body≠none:=by intro e;rw[e]at h2;simp at h2
 simp[callFunc,h1,h5,h4]
theorem In {φ:List cH}{w:World}{S:Nat→Prop}{f:Nat}{caps args:List D}{fs vs cs:List Value}(hk:fs.length=fnK f)(hc:Pw (VR φ w S) caps (fs++cs))(ha:Pw (VR φ w S) args vs):Pw (VR φ w S) (sS f caps args) (fs++vs++cs):=by
 unfold sS;have h1:=hc.take (fnK f);have h2:=hc.drop (fnK f);rw[←hk,List.take_left' rfl]at h1;rw[←hk,List.drop_left' rfl]at h2;rw[mκ,←hk];exact h1.append (ha.append h2)
theorem Y6 {op:BinOp}{t:TypeId}{x y:Operand}{q:O}(h:Y5 P op t x y=some q):dF q=false:=by
 unfold Y5 at h;simp only[cond_eq_ite]at h;repeat' split at h
 all_goals first
  |(simp at h;done)
  |(simp only[lα]at h;subst h;rfl)
theorem VW {s t:TypeId}{q:O}(h:EL P s t=some q):dF q=false:=by
 unfold EL at h;repeat' split at h
 all_goals first
  |(simp at h;done)
  |(simp only[lα]at h;subst h;rfl)
theorem VX {raw:Nat→Bool}{q:O}{as:List A}(hq:Y7 P G raw o=some (q,as))(hic:dF q=true):∃c,o.op= .call c∧sH P G raw c=some (q,as):=by
 unfold Y7 at hq;split at hq;all_goals first
  |(rename_i c ho;exact⟨c,ho,hq⟩)
  |skip
 all_goals try simp only[cond_eq_ite]at hq
 all_goals (repeat' split at hq)
 all_goals first
  |(simp at hq;done)
  |(obtain⟨_,_,he⟩:=df hq;cases he;simp[dF]at hic;done)
  |(obtain⟨_,_,_,_,he⟩:=kP hq;cases he;simp[dF]at hic;done)
  |(obtain⟨rfl,rfl⟩:=bO hq;simp[dF]at hic;done)
  |(obtain⟨_,_,_,_,he⟩:=kP hq;cases he;rename_i hcb;rw[Y6 hcb]at hic;simp at hic;done)
  |(obtain⟨_,_,he⟩:=df hq;cases he;rename_i hcb;rw[VW hcb]at hic;simp at hic;done)
  |skip
theorem Y8 {raw:Nat→Bool}{q:O}{as:List A}(hq:cOp P G raw o=some (q,as))(hic:dF q=true):∃c,o.op= .call c∧sH P G raw c=some (q,as):=by
 unfold cOp at hq;split at hq
 ·rename_i r hr;simp only[lα]at hq;subst hq;exact VX hr hic
 ·simp only[lα,lε]at hq;obtain⟨rfl,rfl⟩:=hq;cases hic
theorem NY {raw:Nat→Bool}{c:Call}{q:O}{as:List A}(hq:sH P G raw c=some (q,as))(hic:dF q=true):∃x,c.callee= .value x:=by
 unfold sH at hq;simp only[cond_eq_ite]at hq;repeat' split at hq
 all_goals first
  |(simp at hq;done)
  |exact⟨_,‹_›⟩
  |(obtain⟨rfl,rfl⟩:=bO hq;simp[dF]at hic;done)
  |skip
theorem W1 {r:Nat}{es:Array MapEntry}{clock t:Nat}(hb:w.heap[r]?=some (.map es clock)):
  (Extern.MapsClone.clone #[.iface t (.map (some r))]).run P w= .ok (.iface t (.map (some w.heap.size))) (w.alloc (.map es clock)):=by
 have e:Extern.MapsClone.clone #[.iface t (.map (some r))]=(getObj r >>= fun o=>match o with
   | .map entries clock=>(newObj (.map entries clock) >>= fun n=>pure (.iface t (.map (some n))))
   | _ => stuck "maps.clone: a map expected") := rfl
 rw[e];simp only[Sem.run_bind,c9 hb,Result.andThen_ok];rfl
theorem R1 {fn : Func} (h : fn.name = "maps.clone") : Extern.find fn = some Extern.MapsClone.clone := by
 unfold Extern.find;simp only[h];rfl
theorem uR.after (h:uR G N a φ w S st){φ':List cH}{w':World}{S':Nat→Prop}{d:Option Nat}{x:D}{v:Value}{hp':List Ob}(hd:Ih d a)(hv:VR φ' w' S' x v)(hr:HR φ' w' S' hp')(he:Ext φ φ')(hf:Fr (bC φ st.hp) S w (bC φ' hp') S' w'):
  uR G N (a.put d v) φ' w' S' ⟨put d x st.tm,hp'⟩ where
 tmr:=Tc hd (m5 he (hf.stable h.hr) hf.sub h.tmr) hv
 gr:=C1 (hf.stable h.hr) hf.sub h.gr
 hr:=hr
 size:=by have:=h.size;cases d<;>simpa[Act.put]using this
 defers:=by rw[←h.defers];cases d<;>simp[Act.put]
theorem Pm {id:Nat}(h:cO (bc hp id)=true):hp[id]?=some .unborn:=by
 cases hc:bc hp id<;>rw[hc]at h<;>simp[cO]at h;exact iU hc (by simp)
theorem ED [Mv]{call:aL}{q:O}{kk len:Nat}{vs:List D}{ids:List Nat}{obs:List Ob}(h:dF q=false):z8 call base q kk vs ids obs len=qK call base q kk vs ids obs len:=by
 cases q<;>first|rfl|(simp[dF]at h)
theorem pN [Mv]{q:O}{vs:List D}{hp:List Ob}(h:dF q=false):dK q vs hp=bN q vs hp:=by
 cases q<;>first|rfl|(simp[dF]at h)
theorem sL:∀(ws acc:List Nat),acc.Nodup→(pI ws acc).Nodup
 |[],acc,h=>h
 |i::r,acc,h=>by
  simp only[pI];cases hc:acc.contains i
  ·refine sL r _ ?_;rw[List.nodup_append];refine⟨h,by simp,?_⟩
   intro a ha b hb e;simp at hb;subst hb;subst e;simp[ha]at hc
  ·exact sL r acc h
theorem KD [Mv](f:Nat)(ws:List Nat)(hp:List Ob):(Fa f ws hp).Nodup:=by
 unfold Fa;cases Mv.mv f
 ·exact(gt _ ws [] (by simp)).1
 ·exact(gt _ _ _ (sL _ _ (by simp))).1
theorem N2 [Mv]{call:aL}{f len:Nat}{ds:List D}{ids:List Nat}{obs:List Ob}{e:gN}(h:(bif Mv.mv f then none else eP call f ds ids obs len)=some e):xu call f ds ids obs len=some e:=by
 unfold xu;cases hm:Mv.mv f
 ·rw[hm]at h;exact h
 ·rw[hm]at h;cases h
theorem ae2 [Mv]{call:aL}(hcall:dV P G call)(rel:uR G N a φ w S st){raw:Nat→Bool}{x:eW}(hq:cOp P G raw o=some (x.op,x.as))(hdst:x.dst=o.dst)(hN:∀t,o.dst=some t→t<N)(hb:base≤st.hp.length){ft:ew}
  (hev:uq call base x st=some (st',ft)) {K:Act→World→Prop} {Q:Exit→Act→World→Prop}
  (hK:∀a' w' φ' S',uR G N a' φ' w' S' st'→Fr (bC φ st.hp) S w (bC φ' st'.hp) S' w'→(∀id,id<base→φ'[id]?=φ[id]?)→K a' w'):o.wp P a w K Q:=by
 have hd:Ih o.dst a:=fun t ht=>qη (hN t ht) rel.size
 unfold uq at hev;simp only at hev;cases hmk:(!(cZ x.op)||cO (bc st.hp (base+x.k)))with
 |false=>rw[hmk]at hev;simp at hev
 |true=>
  rw[hmk]at hev;simp only[cond_true]at hev;have hmk':cZ x.op=true→st.hp[base+x.k]?=some .unborn:=fun h=>by
   rw[h]at hmk;exact Pm (by simpa using hmk)
  split at hev
  ·simp at hev
  ·rename_i d ups new hact;simp only[lα,lε]at hev;obtain⟨rfl,rfl⟩:=hev;have fin:EffOk P o a φ w S st.hp base d (grow (aA st.hp ups) new)→o.wp P a w K Q:=by
    rintro⟨v,w',φ',S',h1,h2,h3,h4,h5,h6⟩
    refine h1.wp (hK _ _ φ' S' ?_ h5 h6);rw[hdst];exact rel.after hd h2 h3 h4 h5
   have finc:∀f args,(execOp a.eval o).run P w= .ok (.enter f args) w→Calls P f args w (RetOk φ st.hp w S d (grow (aA st.hp ups) new) st.hp.length)→o.wp P a w K Q:=by
    intro f args hrun hc;unfold Oper.wp;rw[hrun,Oper.upon_enter];refine hc.mono fun e w' he=>?_
    cases e with
    |panicked c=>exact he.elim
    |outgrown=>exact he.elim
    |returned v=>
     obtain⟨φ',S',h2,h3,h5,h6⟩:=he;refine hK _ _ φ' S' ?_ h5 (fun id hid=>h6 id (by omega));have he:Ext φ φ':=fun id l hl _=>by
      have:id<φ.length:=by
       rcases lπ id φ.length with h|h
       ·exact h
       ·simp[lθ h]at hl
      rw[h6 id (by rw[←rel.hr.len];exact this)];exact hl
     rw[hdst];exact rel.after hd h2 h3 he h5
   cases hic:dF x.op with
   |false=>
    rw[ED hic,pN hic]at hact;exact fin (agc rel.cx hq hic hmk' hact)
   |true=>
    obtain⟨c,ho,hcq⟩:=Y8 hq hic;obtain⟨xo,hc⟩:=NY hcq hic;have hrelc:=rel.cx;unfold sH at hcq;rw[hc]at hcq;simp only at hcq;have hgo:∀{as':List A} {ds:List D} {f:Nat} {ids:List Nat} {vs:Array Value},ids.Nodup→Pw (VR φ w S) ds vs.toList→xu call f ds ids (ids.map (bc st.hp)) st.hp.length=some (d,ups,new)→(fB P f→(execOp a.eval o).run P w= .ok (.enter f vs) w)→o.wp P a w K Q:=by
     intro as' ds f ids vs hnd hp1 hdc hrun;obtain⟨h1,h2⟩:=Zt hcall rel.hr rel.gr hp1 hnd hdc;rw[Array.toArray_toList]at h2;exact finc f vs (hrun h1) h2
    have hnd:∀ws,(cr st.hp bu ws []).Nodup:=fun ws=>(gt _ ws [] (by simp)).1
    split at hcq
    ·rename_i f heq;simp only[Callee.value.injEq]at heq;subst heq;split at hcq
     ·rename_i fn as' hfn has;have hargs:=cS (a:=a) rel.tmr rel.gr has;have hargs':(#[]++c.args.map a.eval++ #[]).toList=c.args.toList.map a.eval:=by simp
      split at hcq
      ·obtain⟨hx1,hx2⟩:=bO hcq;rw[←hx1,←hx2]at hact;simp only[z8,dK]at hact;refine hgo (as':=as') (vs:= #[]++c.args.map a.eval++ #[]) (KD _ _ _) ?_ hact (fun hf=>wc ho hc rfl hf);rw[hargs'];cases raw f with
       |true=>exact hargs
       |false=>exact Lk hargs
      ·rename_i hbody;cases hcl : (fn.name == "maps.clone" && (Extern.findNext fn).isNone) with
       |false=>rw[hcl]at hcq;simp at hcq
       |true=>
        rw[hcl]at hcq;simp only[cond_true]at hcq;obtain⟨hx1,hx2⟩:=bO hcq;rw[lδ,beq_iff_eq]at hcl;have hmk2:=hmk' (by rw[←hx1];rfl);rw[←hx1,←hx2]at hact;simp only[z8,dK,qK,bN]at hact;have hex:∀{v:Value} {r:Nat} {es:Array MapEntry} {clock t:Nat},c.args.map a.eval= #[.iface t (.map (some r))]→w.heap[r]?=some (.map es clock)→
          (execOp a.eval o).run P w= .ok (.value (.iface t (.map (some w.heap.size)))) (w.alloc (.map es clock)):=by
         intro v r es clock t e1 e2;rw[EZ ho hc rfl,run_callFunc_extern hfn (by rw[hcl.1];rfl) (by rw[hbody];rfl) (by simpa using hcl.2) (R1 hcl.1)];rw[show #[]++c.args.map a.eval++ #[]= #[.iface t (.map (some r))] by rw[e1];rfl,W1 e2];rfl
        have hfin:∀{t r:Nat} {ks ws:List Da} {es:Array MapEntry} {clock:Nat},c.args.map a.eval= #[.iface t (.map (some r))]→w.heap[r]?=some (.map es clock)→Pw (PR w S) ks (es.toList.map (·.key))→Pw (PR w S) ws (es.toList.map (·.val))→
          EffOk P o a φ w S st.hp base (.iface t (.map (base+x.k))) (grow (aA st.hp [(base+x.k,.map ks ws)]) []):=by
         intro t r ks ws es clock e1 e2 p1 p2;have hst:eL S w (w.alloc (.map es clock)):=fun b hb=>mA w _ (rel.hr.low b hb)
         obtain⟨g1,g2,g3⟩:=rel.hr.born hmk2 (.map es clock) (l:= .map w.heap.size) (ob:= .map ks ws) (fun b hb=>by simp[bY]at hb;exact hb.symm) (by
          simp only[OR];exact⟨es,clock,fj w _,p1.mono fun _ _ hh=>bD hst (fun _ h=>h) _ hh,p2.mono fun _ _ hh=>bD hst (fun _ h=>h) _ hh⟩)
         refine⟨.iface t (.map (some w.heap.size)),_,_,S,.inl (hex (v:=undef) e1 e2),?_,by simpa[grow,aA,bv]using g1,g3,by simpa[grow,aA,bv]using g2,jS⟩
         simp only[VR];exact⟨_,rfl,_,gc rel.hr hmk2,rfl⟩
        refine fin ?_;unfold Yj at hact;split at hact
        ·rename_i t id heq;obtain⟨v,e1,e2⟩:=GX rel.cx has heq;simp only[VR]at e2;obtain⟨u,rfl,r,hr1,rfl⟩:=e2;split at hact
         ·rename_i ks ws hl;simp only[lα,lε]at hact;obtain⟨rfl,rfl,rfl⟩:=hact;obtain⟨es,clock,g1,g2,g3⟩:=rel.hr.obj id _ _ hr1 (bR hl (by simp));exact hfin e1 g1 g2 g3
         ·rename_i ks ws hl;simp only[lα,lε]at hact;obtain⟨rfl,rfl,rfl⟩:=hact;obtain⟨_,es,clock,g1,g2,g3⟩:=rel.hr.obj id _ _ hr1 (bR hl (by simp));exact hfin e1 g1 g2 g3
         ·simp at hact
        ·rename_i t ks ws heq;obtain⟨v,e1,e2⟩:=GX rel.cx has heq;simp only[VR,PR]at e2;obtain⟨u,rfl,r,es,clock,rfl,hS,g1,g2,g3⟩:=e2;simp only[lα,lε]at hact;obtain⟨rfl,rfl,rfl⟩:=hact;exact hfin e1 g1 (PRs_iff.1 g2) (PRs_iff.1 g3)
        ·simp at hact
     ·simp at hcq
    ·rename_i g hng heq;simp only[Callee.value.injEq]at heq;subst heq;split at hcq
     ·rename_i g' as' hg' has;obtain⟨hx1,hx2⟩:=bO hcq;have hargs:=cS (a:=a) rel.tmr rel.gr has;have hfv:=bg (a:=a) rel.tmr rel.gr hg';rw[←hx1,←hx2]at hact;simp only[z8,dK,bN,List.map_cons]at hact;generalize ev st.tm g'=dg at*
      unfold EN at hact;split at hact
      ·rename_i f caps args heq;simp only[lμ]at heq;obtain⟨rfl,rfl⟩:=heq;simp only[VR,PR]at hfv;obtain⟨fs,cs,hfe,hk,hcs⟩:=hfv;refine hgo (as':=as') (vs:=fs++c.args.map a.eval++cs) (hnd _) ?_ (N2 hact) (fun hf=>wc ho hc hfe hf);have:(fs++c.args.map a.eval++cs).toList=fs.toList++c.args.toList.map a.eval++cs.toList:=by simp
       rw[this];exact In (by simpa using hk) (Pw.map_left ((PRs_iff.1 hcs).mono fun _ _ hh=>by simp only[VR];exact hh)) (Lk hargs)
      ·rename_i f caps args heq;simp only[lμ]at heq;obtain⟨rfl,rfl⟩:=heq;simp only[VR]at hfv;obtain⟨fs,cs,hfe,hk,hcs⟩:=hfv;refine hgo (as':=as') (vs:=fs++c.args.map a.eval++cs) (hnd _) ?_ (N2 hact) (fun hf=>wc ho hc hfe hf);have:(fs++c.args.map a.eval++cs).toList=fs.toList++c.args.toList.map a.eval++cs.toList:=by simp
       rw[this];exact In (by simpa using hk) (VRs_iff.1 hcs) (Lk hargs)
      ·simp at hact
     ·simp at hcq
    ·rename_i hb;simp at hb
    ·rename_i hb;simp at hb
end
end Go.Ab
end
section
namespace Go.Ab
open Go
variable [Letters] [Mv]
theorem kM (a b:List Ob):grow a b=a++b:=by cases b<;>simp[grow]
section
variable {P:Program} {G:ce} {N:Nat} {o:Oper} {a:Act} {φ:List cH} {w:World} {S:Nat→Prop} {hp:List Ob} {tm:Tm} {st st':St} {base:Nat}
theorem HR.reserve (hr:HR φ w S hp)(n:Nat):HR (φ++List.replicate n .none) w S (hp++List.replicate n .unborn)∧(∀b,bC (φ++List.replicate n .none) (hp++List.replicate n .unborn) b→bC φ hp b)∧Ext φ (φ++List.replicate n .none):=by
 have hext:Ext φ (φ++List.replicate n .none):=by
  intro id l hl _;have:id<φ.length:=by
   rcases lπ id φ.length with h|h
   ·exact h
   ·simp[lθ h]at hl
  rw[lκ this];exact hl
 have hat:∀{id:Nat} {l:cH} {o:Ob},(φ++List.replicate n .none)[id]?=some l→(hp++List.replicate n .unborn)[id]?=some o→(φ[id]?=some l∧hp[id]?=some o)∨(l= .none∧o= .unborn):=by
  intro id l o h1 h2;rcases lπ id hp.length with h|h
  ·rw[lκ h]at h2;rw[lκ (by rw[hr.len];exact h)]at h1;exact .inl ⟨h1,h2⟩
  ·rw[lσ h]at h2;rw[lσ (by rw[hr.len];exact h)]at h1;rw[List.getElem?_replicate]at h1 h2;split at h1<;>simp at h1;split at h2<;>simp at h2;exact .inr ⟨h1.symm,h2.symm⟩
 have hown:∀b,bC (φ++List.replicate n .none) (hp++List.replicate n .unborn) b→bC φ hp b:=by
  rintro b ⟨id,l,o,h1,h2,h3⟩
  rcases hat h1 h2 with⟨g1,g2⟩|⟨rfl,rfl⟩
  ·exact⟨id,l,o,g1,g2,h3⟩
  ·simp[bY]at h3
 refine⟨⟨by simp[hr.len],?_,fun b hb=>hr.own b (hown b hb),?_,hr.low⟩,hown,hext⟩
 ·intro id l o h1 h2;rcases hat h1 h2 with⟨g1,g2⟩|⟨rfl,rfl⟩
  ·exact xj hext (fun _ _=>rfl) (fun _ h=>h) (fun _ _=>rfl) (hr.obj id l o g1 g2)
  ·simp only[OR]
 ·intro id id' l l' o o' b h1 h2 h1' h2' h3 h3';rcases hat h1 h2 with⟨g1,g2⟩|⟨rfl,rfl⟩
  ·rcases hat h1' h2' with⟨g1',g2'⟩|⟨rfl,rfl⟩
   ·exact hr.one id id' l l' o o' b g1 g2 g1' g2' h3 h3'
   ·simp[bY]at h3'
  ·simp[bY]at h3
theorem uR.reserve (h:uR G N a φ w S st)(n:Nat):uR G N a (φ++List.replicate n .none) w S ⟨st.tm,grow st.hp (List.replicate n .unborn)⟩ where
 tmr:=m5 (h.hr.reserve n).2.2 (fun _ _=>rfl) (fun _ h=>h) h.tmr
 gr:=h.gr
 hr:=by simp only[kM];exact(h.hr.reserve n).1
 size:=h.size
 defers:=h.defers
structure abJ (P:Program)(G:ce)(raw:Nat→Bool)(N:Nat)(all:List Oper)(o:Oper)(x:eW):Prop where
 op:cOp P G raw o=some (x.op,x.as)
 gd:Kd all o.guard=some x.gd
 dst:x.dst=o.dst
 lt:∀t,o.dst=some t→t<N
theorem jJ {α:Type}{b:Bool}{e:Option α}{r:α}(h:(bif b then e else none)=some r):b=true∧e=some r:=by
 cases b with
 |false=>simp at h
 |true=>exact⟨rfl,h⟩
theorem Ke {raw:Nat→Bool}{all:List Oper}:∀{l:List Oper} {k k':Nat} {xs:List eW},RH P G raw N all l k=some (xs,k')→Pw (abJ P G raw N all) l xs
 |[],k,k',xs,h=>by
  simp only[RH,lα,lε]at h;obtain⟨rfl,rfl⟩:=h;exact Pw.nil
 |o::r,k,k',xs,h=>by
  simp only[RH]at h;split at h
  ·rename_i q as gd hq hgd;obtain⟨hd,h⟩:=jJ h;split at h
   ·rename_i ys n hys;simp only[lα,lε]at h;obtain⟨rfl,rfl⟩:=h;refine Pw.cons ⟨hq,hgd,rfl,fun t ht=>?_⟩ (Ke hys)
    rw[ht]at hd;simpa[blt_eq]using hd
   ·simp at h
  ·simp at h
theorem xV {ops:Array Oper}{raw:Nat→Bool}{x:eW}(ht:Xl φ w S tm a)(hx:abJ P G raw N ops.toList o x){b:Bool}(h:dH x tm=some b):Region.wanted o (yielded ops a.tmps)=b:=by
 have hg:=hx.gd;unfold dH at h;unfold Region.wanted;cases hgu:o.guard with
 |none=>
  rw[hgu]at hg;simp only[Kd,lα]at hg;rw[←hg]at h;simp at h;simp[h]
 |some p=>
  obtain⟨j,want⟩:=p;rw[hgu]at hg;simp only[Kd]at hg;split at hg
  ·rename_i oj hoj;split at hg
   ·rename_i dd hdd;simp only[lα]at hg;rw[←hg]at h;simp only at h;have hv:=ht dd;have hy:yielded ops a.tmps j=(match a.tmps[dd]? with|some (.bool b)=>some b|_=>none):=by
     unfold yielded;have:ops[j]?=some oj:=by simpa using hoj
     rw[this];simp only[Option.bind_some,hdd];rfl
    split at h
    ·rename_i b' hb';rw[hb']at hv;simp only[VR,PR]at hv;simp only[lα]at h;subst h;have:a.tmps[dd]?=some (.bool b'):=by
      rw[Array.getD_eq_getD_getElem?]at hv;cases hc:a.tmps[dd]? with
      |none=>rw[hc]at hv;simp[undef]at hv
      |some u=>rw[hc]at hv;simp at hv;rw[hv]
     simp only[hy,this];cases b'<;>cases want<;>rfl
    ·rename_i hb';rw[hb']at hv;simp only[VR,C2]at hv;obtain⟨vs,hv,_⟩:=hv;simp only[lα]at h;subst h;have:(match a.tmps[dd]? with|some (.bool b)=>some b|_=>none)=none:=by
      rw[Array.getD_eq_getD_getElem?]at hv;cases hc:a.tmps[dd]? with
      |none=>rfl
      |some u=>rw[hc]at hv;simp at hv;rw[hv]
     simp only[hy,this];rfl
    ·simp at h
   ·simp at hg
  ·simp at hg
theorem Oq {call:aL}{x:eW}{ft:ew}(h:uq call base x st=some (st',ft)):st.hp.length≤st'.hp.length:=by
 unfold uq at h;simp only at h;cases hmk:(!(cZ x.op)||cO (bc st.hp (base+x.k)))with
 |false=>rw[hmk]at h;simp at h
 |true=>
  rw[hmk]at h;simp only[cond_true]at h;split at h
  ·simp at h
  ·simp only[lα,lε]at h;obtain⟨rfl,rfl⟩:=h;simp[kM,bQ]
theorem uR.skip (h:uR G N a φ w S st){d:Option Nat}(hd:Ih d a):uR G N (a.put d undef) φ w S ⟨put d (.tup []) st.tm,st.hp⟩ where
 tmr:=Tc hd h.tmr (by simp only[VR];exact⟨#[],rfl,by simp[C2]⟩)
 gr:=h.gr
 hr:=h.hr
 size:=by have:=h.size;cases d<;>simpa[Act.put]using this
 defers:=by rw[←h.defers];cases d<;>simp[Act.put]
def Later (G:ce)(N base:Nat)(φ:List cH)(w:World)(S:Nat→Prop)(st st':St)(a':Act)(w':World):Prop:=
 ∃φ' S',uR G N a' φ' w' S' st'∧Fr (bC φ st.hp) S w (bC φ' st'.hp) S' w'∧(∀id,id<base→φ'[id]?=φ[id]?)∧base≤st'.hp.length
theorem SD {call:aL}(hcall:dV P G call){raw:Nat→Bool}{ops:Array Oper}{Q:Exit→Act→World→Prop}{stn:St}:∀{l:List Oper} {xs:List eW} {i:Nat} {st:St} {a:Act} {φ:List cH} {w:World} {S:Nat→Prop},(∀j o,l[j]?=some o→ops[i+j]?=some o)→Pw (abJ P G raw N ops.toList) l xs→oD call base xs st=some stn→
  uR G N a φ w S st→base≤st.hp.length→(∀a' w',Later G N base φ w S st stn a' w'→Q .normal a' w')→wpOps P ops Q (List.range' i l.length) a w
 |[],xs,i,st,a,φ,w,S,hl,hx,hev,rel,hb,hQ=>by
  obtain rfl:=hx.nil_inv;simp only[oD,lα]at hev;subst hev;simp only[List.length_nil,List.range'_zero,wpOps];exact hQ a w ⟨φ,S,rel,Fr.refl _ _ _,fun _ _=>rfl,hb⟩
 |o::r,xs,i,st,a,φ,w,S,hl,hx,hev,rel,hb,hQ=>by
  obtain⟨x,xr,rfl,hx1,hx2⟩:=hx.cons_inv;have ho:ops[i]?=some o:=by simpa using hl 0 o rfl
  have hl':∀j o',r[j]?=some o'→ops[i+1+j]?=some o':=fun j o' h=>by
   have:=hl (j+1) o' (by simpa using h);rwa [show i+(j+1)=i+1+j by omega]at this
  rw[List.length_cons,List.range'_succ];simp only[wpOps,ho];simp only[oD]at hev;split at hev
  ·simp at hev
  ·rename_i hgd;split at hev
   ·simp at hev
   ·rename_i st1 ft hop;rw[if_pos (by rw[xV rel.tmr hx1 hgd])];refine .inl (ae2 hcall rel hx1.op hx1.dst hx1.lt hb hop fun a' w' φ' S' rel' hf hφ=>?_);refine SD hcall hl' hx2 hev rel' (qκ hb (Oq hop)) fun a2 w2 hlat=>hQ a2 w2 ?_
    obtain⟨φ2,S2,r1,r2,r3,r4⟩:=hlat;exact⟨φ2,S2,r1,hf.trans r2,fun id hid=>(r3 id hid).trans (hφ id hid),r4⟩
  ·rename_i hgd;rw[if_neg (by rw[xV rel.tmr hx1 hgd];simp)];have hd:Ih o.dst a:=fun t ht=>qη (hx1.lt t ht) rel.size
   rw[hx1.dst]at hev;exact SD hcall hl' hx2 hev (rel.skip hd) hb hQ
theorem ahd {call:aL}(hcall:dV P G call){raw:Nat→Bool}{id:Nat}{ops:Array Oper}{xs:List eW}{nal k:Nat}{Q:Exit→Act→World→Prop}{stn:St}{m:Nat}(hx:RH P G raw N ops.toList ops.toList 0=some (xs,k))(hev:BA call nal xs none st=some stn)
  (rel:uR G N a φ w S st) (hm:m≤st.hp.length) (hQ:∀a' w',Later G N m φ w S st stn a' w'→Q .normal a' w'):(Code.region id ops false).wp P Q a w:=by
 refine wp_region ?_;rw[List.range_eq_range',←Array.length_toList];have hlen:=rel.hr.len;refine SD hcall (base:=st.hp.length) (fun j o h=>by simpa using h) (Ke hx) hev (rel.reserve nal) (by simp[kM]) fun a' w' hlat=>hQ a' w' ?_
 obtain⟨φ2,S2,r1,r2,r3,r4⟩:=hlat;refine⟨φ2,S2,r1,?_,fun id hid=>?_,qκ hm r4⟩
 ·refine Fr.trans (O1:=bC (φ++List.replicate nal .none) (grow st.hp (List.replicate nal .unborn))) (S1:=S) (w1:=w) ?_ r2;rw[kM];exact(Fr.refl _ _ _).less (rel.hr.reserve nal).2.1
 ·rw[r3 id (by omega),lκ (by omega)]
end
end Go.Ab
end
section
namespace Go.Ab
open Go
variable [Letters] [Mv]
def Wr (call:aL)(base:Nat)(x:eW)(st:St):Option (St×ew):=
 match dH x st.tm with
 |none=>none
 |some true=>uq call base x st
 |some false=>some (⟨put x.dst (.tup []) st.tm,st.hp⟩,⟨[],[],false,0⟩)
def BE:ew:=⟨[],[],false,0⟩
theorem EX {call:aL}{base:Nat}:∀{xs:List eW} {st st':St} {fs fs':List ew},ek call base xs st fs=some (st',fs')→
  ∃(σ:Nat→St) (F:List ew),σ 0=st∧σ xs.length=st'∧fs'=fs.reverse++F∧F.length=xs.length∧∀(i:Nat) x,xs[i]?=some x→Wr call base x (σ i)=some (σ (i+1),F.getD i BE)
 |[],st,st',fs,fs',h=>by
  simp only[ek,lα,lε]at h;obtain⟨rfl,rfl⟩:=h;exact⟨fun _=>st,[],rfl,rfl,by simp,rfl,by intro i x h;simp at h⟩
 |x::r,st,st',fs,fs',h=>by
  simp only[ek]at h;have key:∀st1 f,Wr call base x st=some (st1,f)→ek call base r st1 (f::fs)=some (st',fs')→
    ∃(σ:Nat→St) (F:List ew),σ 0=st∧σ (x::r).length=st'∧fs'=fs.reverse++F∧F.length=(x::r).length∧∀(i:Nat) y,(x::r)[i]?=some y→Wr call base y (σ i)=some (σ (i+1),F.getD i BE):=by
   intro st1 f h1 h2;obtain⟨σ,F,g1,g2,g3,g4,g5⟩:=EX h2;refine⟨fun i=>match i with|0=>st|i+1=>σ i,f::F,rfl,g2,by rw[g3];simp,by simp[g4],fun i y hy=>?_⟩
   cases i with
   |zero=>
    simp at hy;subst hy;simpa[g1]using h1
   |succ i=>
    simp at hy;simpa using g5 i y hy
  split at h
  ·simp at h
  ·rename_i hg;split at h
   ·simp at h
   ·rename_i st1 f hop;exact key st1 f (by simp[Wr,hg,hop]) h
  ·rename_i hg;exact key _ _ (by simp[Wr,hg]) h
theorem TM:∀{a b:List (Int×Int×Int)},Wp a b=true→a=b
 |[],[],_=>rfl
 |[],_::_,h=>by simp[Wp]at h
 |_::_,[],h=>by simp[Wp]at h
 |(a,l,h)::r,(b,m,i)::s,hh=>by
  simp only[Wp,lδ,jO,beq_iff_eq]at hh;obtain⟨rfl,rfl,rfl,h4⟩:=hh;rw[TM h4]
theorem ac8 {a b:Sy}(h:agm a b=true):a=b:=by
 cases a<;>cases b<;>simp only[agm,lδ,jO,beq_iff_eq,Bool.false_eq_true]at h
 ·rw[h.1,TM h.2]
 ·rw[h.1,h.2]
mutual
theorem RT:∀(a b:Da),Kl a b=true→a=b
 | .bool a,b,h=>by cases b<;>simp_all [Kl]
 | .int i a,b,h=>by cases b<;>simp_all [Kl,jO]
 | .str a,b,h=>by cases b<;>simp_all [Kl,Kq]
 | .agg a,b,h=>by
  cases b<;>simp only[Kl,Bool.false_eq_true]at h;rw[eQ _ _ h]
 | .slice z a,b,h=>by
  cases b<;>simp only[Kl,Bool.false_eq_true,lδ]at h;rw[lζ h.1,eQ _ _ h.2]
 | .nilptr,b,h=>by cases b<;>simp_all [Kl]
 | .ptr a,b,h=>by
  cases b<;>simp only[Kl,Bool.false_eq_true]at h;rw[RT _ _ h]
 | .map a b,c,h=>by
  cases c<;>simp only[Kl,Bool.false_eq_true,lδ]at h;rw[eQ _ _ h.1,eQ _ _ h.2]
 | .nilmap,b,h=>by cases b<;>simp_all [Kl]
 | .fn f a,b,h=>by
  cases b<;>simp only[Kl,Bool.false_eq_true,lδ]at h;rw[lζ h.1,eQ _ _ h.2]
 | .nilfn,b,h=>by cases b<;>simp_all [Kl]
 | .iface t x,b,h=>by cases b<;>simp[Kl]at h
 | .nilif,b,h=>by cases b<;>simp[Kl]at h
 | .sliceE z es,b,h=>by cases b<;>simp[Kl]at h
 | .sym i a,b,h=>by
  cases b<;>simp only[Kl,Bool.false_eq_true,lδ,lη]at h;rw[h.1,ac8 h.2]
theorem eQ:∀(a b:List Da),qP a b=true→a=b
 |[],[],_=>rfl
 |[],_::_,h=>by simp[qP]at h
 |_::_,[],h=>by simp[qP]at h
 |x::a,y::b,h=>by
  simp only[qP,lδ]at h;rw[RT _ _ h.1,eQ _ _ h.2]
end
mutual
theorem agi:∀(a b:D),RU a b=true→a=b
 | .p a,b,h=>by
  cases b<;>simp only[RU,Bool.false_eq_true]at h;rw[RT _ _ h]
 | .agg a,b,h=>by
  cases b<;>simp only[RU,Bool.false_eq_true]at h;rw[xI _ _ h]
 | .tup _,b,h=>by cases b<;>simp[RU]at h
 | .box i o,b,h=>by
  cases b<;>simp only[RU,Bool.false_eq_true,lδ]at h;rw[lζ h.1,lζ h.2]
 | .el _ _ _,b,h=>by cases b<;>simp[RU]at h
 | .ip _ _,b,h=>by cases b<;>simp[RU]at h
 | .arr i x y z,b,h=>by
  cases b<;>simp only[RU,Bool.false_eq_true,lδ]at h;rw[lζ h.1,lζ h.2.1,lζ h.2.2.1,lζ h.2.2.2]
 | .sl g z a,b,h=>by
  cases b with
  |sl g2 y b=>
   cases g<;>cases g2<;>simp only[RU,Bool.false_eq_true,lδ]at h
   ·rw[lζ h.1,eQ _ _ h.2]
   ·rw[lζ h.1,eQ _ _ h.2]
  |_=>cases g<;>simp[RU]at h
 | .map i,b,h=>by
  cases b<;>simp only[RU,Bool.false_eq_true]at h;rw[lζ h]
 | .fn f a,b,h=>by
  cases b<;>simp only[RU,Bool.false_eq_true,lδ]at h;rw[lζ h.1,xI _ _ h.2]
 | .iface _ _,b,h=>by cases b<;>simp[RU]at h
 | .junk,b,h=>by cases b<;>simp[RU]at h
theorem xI:∀(a b:List D),Km a b=true→a=b
 |[],[],_=>rfl
 |[],_::_,h=>by simp[Km]at h
 |_::_,[],h=>by simp[Km]at h
 |x::a,y::b,h=>by
  simp only[Km,lδ]at h;rw[agi _ _ h.1,xI _ _ h.2]
end
theorem ac7 {a b:Ob}(h:RW a b=true):a=b:=by
 cases a<;>cases b<;>simp only[RW,Bool.false_eq_true,lδ]at h
 ·rw[xI _ _ h]
 ·rw[eQ _ _ h]
 ·rw[eQ _ _ h]
 ·rw[eQ _ _ h.1,eQ _ _ h.2]
 ·rw[eQ _ _ h.1,eQ _ _ h.2]
 ·rw[eQ _ _ h.1,xI _ _ h.2]
theorem Ir {i:Nat}:∀{l:List Nat},BF i l=true→i∈l
 |[],h=>by cases h
 |j::r,h=>by
  simp only[BF]at h;rw[beq_eq]at h;by_cases hj:j=i
  ·subst hj;simp
  ·simp only[hj,decide_false,cond_false]at h;exact lψ _ (Ir h)
theorem A8 {ids:List Nat}{hp:List Ob}{id:Nat}:∀{ups:List (Nat×Ob)} {cur:List Ob},(id∈ids→cur[id]?=hp[id]?)→id∉oO ids hp ups→(aA cur ups)[id]?=cur[id]?
 |[],cur,_,_=>rfl
 |(i,o)::r,cur,hc,h=>by
  simp only[aA,bv];simp only[oO]at h;have step:(cur.set i o)[id]?=cur[id]?∧id∉oO ids hp r:=by
   cases hq:BF i ids&&RW (bc hp i) o
   ·simp only[hq,cond_false,mγ,not_or]at h;exact⟨by rw[mυ (fun e=>h.1 e.symm)],h.2⟩
   ·simp only[hq,cond_true]at h;refine⟨?_,h⟩;by_cases hi:i=id
    ·subst hi;rw[lδ]at hq;have he:=ac7 hq.2;have hcc:=hc (Ir hq.1);rw[List.getElem?_set,if_pos rfl];cases hx:hp[i]? with
     |none=>
      rw[hx]at hcc;rw[hcc];rw[if_neg];intro hlt;rw[lγ hlt]at hcc;cases hcc
     |some x=>
      rw[hx]at hcc;have hlt:i<cur.length:=by
       rcases lπ i cur.length with h1|h1
       ·exact h1
       ·rw[lθ h1]at hcc;cases hcc
      rw[if_pos hlt,hcc,←he,Dj hx]
    ·rw[mυ hi]
  rw[A8 (fun hm=>step.1.trans (hc hm)) step.2,step.1]
theorem qZ:∀{ups:List (Nat×Ob)} {hp hp2:List Ob} {id:Nat},hp2[id]?=hp[id]?→(aA hp2 ups)[id]?=(aA hp ups)[id]?
 |[],hp,hp2,id,h=>h
 |(i,o)::r,hp,hp2,id,h=>by
  simp only[aA,bv];refine qZ ?_;rw[List.getElem?_set,List.getElem?_set];by_cases hi:i=id
  ·subst hi;simp only[if_true];rcases lπ i hp.length with h1|h1<;>rcases lπ i hp2.length with h2|h2
   ·rw[if_pos h1,if_pos h2]
   ·rw[lθ h2,lγ h1]at h;simp at h
   ·rw[lθ h1,lγ h2]at h;simp at h
   ·rw[if_neg (by omega),if_neg (by omega)]
  ·rw[if_neg hi,if_neg hi];exact h
theorem wr_iff {f:ew}{id:Nat}:wr f id=true↔id∈f.ws∨(f.grow=true∧f.lim≤id):=by
 simp[wr,ble_eq]
theorem Tk {call:aL}{base:Nat}{q:O}{k:Nat}{vs:List D}{ids:List Nat}{obs:List Ob}{len len':Nat}{d:D}{ups:List (Nat×Ob)}(h:qK call base q k vs ids obs len=some (d,ups,[])):qK call base q k vs ids obs len'=some (d,ups,[]):=by
 have key:∀{f:Nat} {args:List D},eP call f args ids obs len=some (d,ups,[])→eP call f args ids obs len'=some (d,ups,[]):=by
  intro f args h;unfold eP at h ⊢
  split at h
  ·simp at h
  ·rename_i r out hc;obtain⟨hle,h⟩:=jJ h;simp only[hc,hle,cond_true];simp only[lα,lε,List.drop_eq_nil_iff,lβ]at h;have hle2:out.length≤ids.length:=h.2.2;have hb:back ids.length len ids out.length=back ids.length len' ids out.length:=by
    funext k
    unfold back;rw[blt_eq,blt_eq];by_cases hk:k<ids.length
    ·simp[hk]
    ·have:¬k<out.length:=by omega
     simp[hk,this]
   rw[←hb];simp only[lα,lε,List.drop_eq_nil_iff,lβ];exact h
 cases q<;>simp only[qK]at h ⊢ <;>first
  |exact h
  |exact key h
  |(
    unfold Yh at h ⊢
    split at h
    ·exact key h
    ·exact key h
    ·simp at h)
theorem close_congr {hp hp2:List Ob}:∀{n:Nat} {ws acc:List Nat},(∀id∈cr hp n ws acc,hp2[id]?=hp[id]?)→cr hp2 n ws acc=cr hp n ws acc
 |0,ws,acc,h=>by simp only[cr]
 |n+1,[],acc,h=>by simp only[cr]
 |n+1,id::ws,acc,h=>by
  simp only[cr]at h ⊢
  split
  ·rename_i hc;rw[if_pos hc]at h;exact close_congr h
  ·rename_i hc;rw[if_neg hc]at h;have hid:hp2[id]?=hp[id]?:=by
    refine h id ?_;have hni:acc.Nodup→True:=fun _=>trivial
    obtain⟨r,hr⟩:=close_prefix (hp:=hp) n (lR (hp.getD id .dead)++ws) (acc++[id]);rw[←hr];simp
   have hob:hp2.getD id .dead=hp.getD id .dead:=by simp[lρ,hid]
   rw[hob];exact close_congr h
where
 close_prefix {hp:List Ob}:∀(n:Nat) (ws acc:List Nat),acc <+: cr hp n ws acc
  |0,ws,acc=>by simp only[cr];exact List.prefix_refl _
  |n+1,[],acc=>by simp only[cr];exact List.prefix_refl _
  |n+1,id::ws,acc=>by
   simp only[cr];split
   ·exact close_prefix n ws acc
   ·exact(List.prefix_append _ _).trans (close_prefix n _ _)
theorem ww {q:O}{vs:List D}{hp hp2:List Ob}(h:∀id∈bN q vs hp,hp2[id]?=hp[id]?):bN q vs hp2=bN q vs hp:=by
 cases q<;>simp only[bN]at h ⊢ <;>exact close_congr h
theorem Ou {x:eW}{tm tm2:Tm}(h:∀t∈jW x,get tm2 t=get tm t):x.as.map (ev tm2)=x.as.map (ev tm):=by
 apply List.map_congr_left;intro y hy;cases y with
 |t n=>
  simp only[ev];refine h n ?_;simp only[jW,mρ,List.mem_filterMap];exact .inl ⟨.t n,hy,rfl⟩
 |_=>rfl
theorem OD {x:eW}{tm tm2:Tm}(h:∀t∈jW x,get tm2 t=get tm t):dH x tm2=dH x tm:=by
 unfold dH;cases hg:x.gd with
 |none=>rfl
 |some p=>
  obtain⟨g,want⟩:=p;simp only;rw[h g (by simp[jW,hg])]
theorem aaT {ids:List Nat}{hp hp2:List Ob}(h:∀id∈ids,hp2[id]?=hp[id]?):ids.map (bc hp2)=ids.map (bc hp):=by
 apply List.map_congr_left;intro id hid;simp[bc,lρ,h id hid]
structure Did (x:eW)(st st1:St)(f:ew)(st2 st2':St):Prop where
 tm1:∀t,x.dst=some t→get st2'.tm t=get st1.tm t
 tm0:∀t,x.dst≠some t→get st2'.tm t=get st2.tm t
 hp1:∀id,wr f id=true→st2'.hp[id]?=st1.hp[id]?
 hp0:∀id,wr f id=false→st2'.hp[id]?=st2.hp[id]?
 len1:f.grow=true→st2'.hp.length=st1.hp.length
 len0:f.grow=false→st2'.hp.length=st2.hp.length
theorem PM {d:Option Nat}{v:D}{tm tm2:Tm}{t:Nat}(h:d=some t):get (put d v tm2) t=get (put d v tm) t:=by
 rw[xR,xR,if_pos h,if_pos h]
theorem Bw {call:aL}{m:Nat}{ids:List Nat}{obs:List Ob}{len len':Nat}{d:D}{ups:List (Nat×Ob)}{f:Nat}{args:List D}(h:mo call f args m ids obs len=some (d,ups,[])):mo call f args m ids obs len'=some (d,ups,[]):=by
 unfold mo at h ⊢
 split at h
 ·simp at h
 ·rename_i r out hc;obtain⟨hle,h⟩:=jJ h;simp only[hc,hle,cond_true];simp only[lα,lε,List.drop_eq_nil_iff,lβ]at h;have hle2:out.length≤m:=h.2.2;have hb:back m len ids out.length=back m len' ids out.length:=by
   funext k
   unfold back;rw[blt_eq,blt_eq];by_cases hk:k<m
   ·simp[hk]
   ·have:¬k<out.length:=by omega
    simp[hk,this]
  rw[←hb];simp only[lα,lε,List.drop_eq_nil_iff,lβ];exact h
theorem wb {call:aL}{ids:List Nat}{obs:List Ob}{len len':Nat}{d:D}{ups:List (Nat×Ob)}{f:Nat}{args:List D}(h:eP call f args ids obs len=some (d,ups,[])):eP call f args ids obs len'=some (d,ups,[]):=by
 rw[Ig]at h ⊢
 exact Bw h
theorem Ym {call:aL}{base:Nat}{q:O}{k:Nat}{vs:List D}{ids:List Nat}{obs:List Ob}{len len':Nat}{d:D}{ups:List (Nat×Ob)}(h:z8 call base q k vs ids obs len=some (d,ups,[])):z8 call base q k vs ids obs len'=some (d,ups,[]):=by
 cases hq:dF q
 ·rw[ED hq]at h ⊢
  exact Tk h
 ·cases q<;>first
   |(simp[dF]at hq;done)
   |(
     simp only[z8,xu]at h ⊢
     revert h
     cases Mv.mv _<;>intro h
     ·exact wb h
     ·exact Bw h)
   |(
     simp only[z8,EN]at h ⊢
     split at h
     ·revert h
      cases Mv.mv _<;>intro h
      ·exact wb h
      ·cases h
     ·revert h
      cases Mv.mv _<;>intro h
      ·exact wb h
      ·cases h
     ·cases h)
   |exact Tk (call:=call) (q:= .clone) (len:=len) (len':=len') h
theorem So {f:Nat}{raw:Bool}{vs:List D}{hp hp2:List Ob}(h:∀id∈dK (.call f raw) vs hp,hp2[id]?=hp[id]?):dK (.call f raw) vs hp2=dK (.call f raw) vs hp:=by
 simp only[dK,Fa]at h ⊢
 revert h
 cases Mv.mv f<;>intro h
 ·exact close_congr h
 ·simp only[cond_true]at h ⊢
  have hd:((pI (dids.didsL vs) []).flatMap fun i=>lR (bc hp2 i))=(pI (dids.didsL vs) []).flatMap fun i=>lR (bc hp i):=by
   have key:∀i∈pI (dids.didsL vs) [],bc hp2 i=bc hp i:=fun i hi=>by
    have:=h i ((close_congr.close_prefix _ _ _).subset hi);simp[bc,lρ,this]
   clear h;generalize pI (dids.didsL vs) []=l at key ⊢
   induction l with
   |nil=>rfl
   |cons a r ih=>
    simp only[List.flatMap_cons];rw[key a (lυ ..),ih fun i hi=>key i (lψ _ hi)]
  rw[hd];exact close_congr h
theorem Pe {q:O}{vs:List D}{hp hp2:List Ob}(h:∀id∈dK q vs hp,hp2[id]?=hp[id]?):dK q vs hp2=dK q vs hp:=by
 cases hq:dF q
 ·rw[pN hq]at h;rw[pN hq,pN hq];exact ww h
 ·cases q<;>first
   |(simp[dF]at hq;done)
   |exact So h
   |exact ww (q:= .callv) h
   |exact ww (q:= .clone) h
theorem t5 {call:aL}{base:Nat}{x:eW}{st st1:St}{f:ew}(h:Wr call base x st=some (st1,f)){st2:St}(ha:∀t∈jW x,get st2.tm t=get st.tm t)(hb:∀id,id∈f.rs∨id∈f.ws→st2.hp[id]?=st.hp[id]?)(hc:f.grow=true→st2.hp.length=st.hp.length):
  ∃st2' f',Wr call base x st2=some (st2',f')∧Did x st st1 f st2 st2':=by
 unfold Wr at h ⊢
 rw[OD ha];split at h
 ·simp at h
 ·rename_i hg;unfold uq at h;simp only at h;obtain⟨hmk,h⟩:=jJ h;split at h
  ·simp at h
  ·rename_i d ups new hact;simp only[lα,lε]at h;obtain⟨rfl,rfl⟩:=h;simp only at hb hc;have hids:∀id∈dK x.op (x.as.map (ev st.tm)) st.hp,st2.hp[id]?=st.hp[id]?:=fun id hid=>hb id (.inl (by cases cZ x.op<;>simp[hid]))
   have hn:dK x.op (x.as.map (ev st2.tm)) st2.hp=dK x.op (x.as.map (ev st.tm)) st.hp:=by rw[Ou ha];exact Pe hids
   have hmk2:(!(cZ x.op)||cO (bc st2.hp (base+x.k)))=true:=by
    cases hm:cZ x.op with
    |false=>rfl
    |true=>
     rw[hm]at hmk;have:bc st2.hp (base+x.k)=bc st.hp (base+x.k):=by
      simp only[bc,lρ];rw[hb (base+x.k) (.inl (by rw[hm];simp))]
     rw[this];exact hmk
   have hact2:z8 call base x.op x.k (x.as.map (ev st2.tm)) (dK x.op (x.as.map (ev st2.tm)) st2.hp) ((dK x.op (x.as.map (ev st2.tm)) st2.hp).map (bc st2.hp)) st2.hp.length=some (d,ups,new):=by
    rw[hn,Ou ha,aaT hids];cases new with
    |nil=>exact Ym hact
    |cons o r=>rw[hc rfl];exact hact
   refine⟨⟨put x.dst d st2.tm,grow (aA st2.hp ups) new⟩,_,by unfold uq;simp only[hmk2,cond_true,hact2];rfl,?_⟩
   have hle:∀hp:List Ob,(grow (aA hp ups) new).length=hp.length+new.length:=fun hp=>by simp[kM,bQ]
   have hwr:∀id,wr ⟨bif cZ x.op then(base+x.k)::dK x.op (x.as.map (ev st.tm)) st.hp else dK x.op (x.as.map (ev st.tm)) st.hp,oO (dK x.op (x.as.map (ev st.tm)) st.hp) st.hp ups,!new.isEmpty,st.hp.length⟩ id=true→(grow (aA st2.hp ups) new)[id]?=(grow (aA st.hp ups) new)[id]?:=by
    intro id hw;rw[wr_iff]at hw;simp only at hw;rw[kM,kM];cases new with
    |nil=>
     simp only[mε];have hw':=hw.resolve_right (by simp);exact qZ (hb id (.inr hw'))
    |cons o r=>
     have hl:=hc rfl;rcases lπ id st.hp.length with h1|h1
     ·have hw':=hw.resolve_right (by simp;omega);rw[lκ (by rw[bQ];omega),lκ (by rw[bQ];exact h1)];exact qZ (hb id (.inr hw'))
     ·rw[lσ (by rw[bQ];omega),lσ (by rw[bQ];exact h1),bQ,bQ,hl]
   refine⟨fun t ht=>PM ht,fun t ht=>by simp only;rw[xR,if_neg ht],hwr,fun id hw=>?_,fun hg'=>?_,fun hg'=>?_⟩
   ·have hw':¬(id∈oO (dK x.op (x.as.map (ev st.tm)) st.hp) st.hp ups∨((!new.isEmpty)=true∧st.hp.length≤id)):=fun hh=>by
     have:=wr_iff (f:=⟨bif cZ x.op then(base+x.k)::dK x.op (x.as.map (ev st.tm)) st.hp else dK x.op (x.as.map (ev st.tm)) st.hp,oO (dK x.op (x.as.map (ev st.tm)) st.hp) st.hp ups,!new.isEmpty,st.hp.length⟩).2 hh
     rw[hw]at this;simp at this
    simp only[not_or]at hw';simp only[kM];cases new with
    |nil=>rw[mε];exact A8 (hids id) hw'.1
    |cons o r=>
     have hl:=hc rfl;have:id<st.hp.length:=by
      have:=hw'.2;simp at this;omega
     rw[lκ (by rw[bQ];omega)];exact A8 (hids id) hw'.1
   ·simp only[hle];rw[hc hg']
   ·simp only[hle];have:new=[]:=by simpa using hg'
    simp[this]
 ·rename_i hg;simp only[lα,lε]at h;obtain⟨rfl,rfl⟩:=h;exact⟨_,_,rfl,fun t ht=>PM ht,fun t ht=>by simp only;rw[xR,if_neg ht],by intro id hw;simp[wr]at hw,fun _ _=>rfl,by intro hh;simp at hh,fun _=>rfl⟩
theorem aaf {call:aL}{base:Nat}{x:eW}{st st1:St}{f:ew}(h:Wr call base x st=some (st1,f))(hh:ed x.op=false):f.rs=[]∧f.ws=[]∧f.grow=false:=by
 unfold Wr at h;split at h
 ·simp at h
 ·unfold uq at h;simp only at h;obtain⟨hmk,h⟩:=jJ h;split at h
  ·simp at h
  ·rename_i d ups new hact;simp only[lα,lε]at h;obtain⟨rfl,rfl⟩:=h;have hnc:dF x.op=false:=by
    cases hq:x.op<;>rw[hq]at hh<;>simp[ed]at hh<;>rfl
   rw[ED hnc]at hact;have hval:∀{e:D},val e=some (d,ups,new)→ups=[]∧new=[]:=fun he=>(oN he).2
   have hvalP:∀{e:Option Da},nL e=some (d,ups,new)→ups=[]∧new=[]:=fun he=>by obtain⟨_,_,_,h1,h2⟩:=Qv he;exact⟨h1,h2⟩
   have key:ups=[]∧new=[]:=by
    clear hnc;generalize dK x.op (x.as.map (ev st.tm)) st.hp=ids0 at hact;generalize x.as.map (ev st.tm)=vs at hact;generalize x.op=q at hact hh;cases q<;>simp only[ed,reduceCtorEq,Bool.true_eq_false]at hh;all_goals simp only[qK]at hact
    all_goals first
     |(simp at hact;done)
     |(unfold aMv at hact)
     |(unfold H1 at hact)
     |(unfold vS at hact)
     |(unfold vT at hact;simp only[cond_eq_ite]at hact)
     |(unfold GV at hact)
     |(unfold Te at hact)
     |(unfold Tf at hact)
     |(unfold EB at hact)
     |(unfold aUn at hact)
     |(unfold Tg at hact)
     |(unfold Ti at hact)
     |(unfold NM at hact)
     |(unfold NL at hact)
     |(unfold abX at hact;simp only[cond_eq_ite]at hact)
     |(unfold qI at hact)
     |(unfold Tj at hact)
     |(unfold VM at hact;simp only[cond_eq_ite]at hact)
     |(unfold lx at hact;rw[qδ]at hh;obtain⟨rfl,hh⟩:=hh;simp only[hh,Bool.false_and,cond_eq_ite,Bool.false_eq_true,if_false]at hact)
     |(unfold aFa at hact)
     |(unfold NI at hact)
     |(unfold Th at hact;simp only[cond_eq_ite]at hact)
     |(unfold Yk at hact;simp only[cond_eq_ite]at hact)
     |(unfold aIx at hact)
     |(unfold Ry at hact)
     |(unfold Yi at hact)
     |(unfold NK at hact)
     |(unfold NJ at hact)
     |(unfold sE at hact;simp only[cond_eq_ite]at hact)
     |(unfold Yl at hact)
     |skip
    all_goals (repeat' split at hact)
    all_goals first
     |(simp at hact;done)
     |exact hval hact
     |exact hvalP hact
   obtain⟨rfl,rfl⟩:=key;have hm:cZ x.op=false:=by
    cases hq:x.op<;>rw[hq]at hh<;>simp[ed]at hh<;>rfl
   have hn:dK x.op (x.as.map (ev st.tm)) st.hp=[]:=by
    rw[pN hnc];clear hnc;cases hq:x.op<;>rw[hq]at hh<;>simp only[ed,reduceCtorEq,Bool.true_eq_false]at hh<;>first
     |rfl
     |(simp only[bN,hh,cond_false])
   rw[hm,hn];exact⟨rfl,rfl,rfl⟩
 ·simp only[lα,lε]at h;obtain⟨_,rfl⟩:=h;exact⟨rfl,rfl,rfl⟩
end Go.Ab
end
section
namespace Go.Ab
open Go
variable [Letters] [Mv]
def pS (o:Oper):List Nat:=(o.after.toList.filter mf).map (·.on)
theorem xG:∀{l:List Oper} {n:Nat},km l n=true→∀(j:Nat) o,l[j]?=some o→∀d∈pS o,d<n+j
 |[],n,h,j,o,ho,d,hd=>by simp at ho
 |x::r,n,h,j,o,ho,d,hd=>by
  simp only[km,lδ,mζ]at h;cases j with
  |zero=>
   simp at ho;subst ho;simp only[pS,List.mem_map,List.mem_filter]at hd;obtain⟨e,⟨he,hb⟩,rfl⟩:=hd;have:=h.1 e he;rw[hb]at this;simpa[blt_eq]using this
  |succ j=>
   have:=xG h.2 j o (by simpa using ho) d hd;omega
theorem Tl:∀(l:List Oper) (acc:List (List Nat)),∃r,GW l acc=acc++r∧r.length=l.length∧
  ∀(j:Nat) o,l[j]?=some o→∀x∈(GW l acc).getD (acc.length+j) [],x∈pS o∨∃d∈pS o,d<acc.length+j∧x∈(GW l acc).getD d []
 |[],acc=>⟨[],by simp[GW],rfl,by intro j o h;simp at h⟩
 |o::r,acc=>by
  simp only[GW];obtain⟨q,h1,h2,h3⟩:=Tl r (acc++[(((o.after.toList.filter mf).map (·.on))++((o.after.toList.filter mf).map (·.on)).flatMap fun d=>acc.getD d []).eraseDups]);refine⟨_::q,by rw[h1];simp;rfl,by simp[h2],fun j o' ho x hx=>?_⟩
  cases j with
  |zero=>
   simp at ho;subst ho;rw[h1]at hx;rw[h1];simp only[Nat.add_zero,lρ,mκ,lσ (Nat.le_refl _),Nat.sub_self,List.singleton_append,List.getElem?_cons_zero,Option.getD_some,List.mem_eraseDups,mρ,List.mem_flatMap]at hx;rcases hx with hx|⟨d,hd,hx⟩
   ·exact .inl hx
   ·have hlt:d<acc.length:=by
     rcases lπ d acc.length with h|h
     ·exact h
     ·simp[lθ h]at hx
    refine .inr ⟨d,hd,by simpa using hlt,?_⟩
    rw[lρ,mκ,lκ hlt];exact hx
  |succ j=>
   have:=h3 j o' (by simpa using ho) x (by
    have e:(acc++[(((o.after.toList.filter mf).map (·.on))++((o.after.toList.filter mf).map (·.on)).flatMap fun d=>acc.getD d []).eraseDups]).length+j=acc.length+(j+1):=by simp;omega
    rw[e];exact hx)
   rcases this with h|⟨d,hd,hlt,hx⟩
   ·exact .inl h
   ·exact .inr ⟨d,hd,by simp at hlt;omega,hx⟩
theorem FT {xs:List eW}{an:List Nat}{x:eW}{n:Nat}:∀{l:List Nat} {ps:List (Nat×Nat)},Dm xs an x n l=some ps→∀i∈l,i∈an∨∃y,xs[i]?=some y∧zo y x=true∧((ed y.op&&ed x.op)=true→(i,n)∈ps)
 |[],ps,h,i,hi=>by simp at hi
 |k::r,ps,h,i,hi=>by
  simp only[Dm]at h;split at h
  ·simp at h
  ·rename_i qs hqs;have ih:=FT hqs;cases hc:an.contains k with
   |true=>
    rw[hc]at h;simp only[cond_true,lα]at h;subst h;rcases mγ.1 hi with rfl|hi
    ·exact .inl (by simpa using hc)
    ·exact ih i hi
   |false=>
    rw[hc]at h;simp only[cond_false]at h;split at h
    ·simp at h
    ·rename_i y hy;obtain⟨htm,h⟩:=jJ h;cases hh:(ed y.op&&ed x.op)with
     |true=>
      rw[hh]at h;simp only[cond_true,lα]at h;subst h;rcases mγ.1 hi with rfl|hi
      ·exact .inr ⟨y,hy,htm,fun _=>by simp⟩
      ·rcases ih i hi with h|⟨y',h1,h2,h3⟩
       ·exact .inl h
       ·exact .inr ⟨y',h1,h2,fun hq=>lψ _ (h3 hq)⟩
     |false=>
      rw[hh]at h;simp only[cond_false,lα]at h;subst h;rcases mγ.1 hi with rfl|hi
      ·exact .inr ⟨y,hy,htm,fun hq=>by rw[hh]at hq;simp at hq⟩
      ·exact ih i hi
theorem BI {xs:List eW}{an:List (List Nat)}:∀{l:List Nat} {ps:List (Nat×Nat)},pQ xs an l=some ps→∀n∈l,∃x a,xs[n]?=some x∧an[n]?=some a∧∀i,i<n→i∈a∨∃y,xs[i]?=some y∧zo y x=true∧((ed y.op&&ed x.op)=true→(i,n)∈ps)
 |[],ps,h,n,hn=>by simp at hn
 |k::r,ps,h,n,hn=>by
  simp only[pQ]at h;split at h
  ·rename_i x a hx ha;split at h
   ·rename_i p1 p2 h1 h2;simp only[lα]at h;subst h;rcases mγ.1 hn with rfl|hn
    ·refine⟨x,a,hx,ha,fun i hi=>?_⟩
     rcases FT h1 i (by simpa using hi)with h|⟨y,g1,g2,g3⟩
     ·exact .inl h
     ·exact .inr ⟨y,g1,g2,fun hq=>List.mem_append_left _ (g3 hq)⟩
    ·obtain⟨x',a',g1,g2,g3⟩:=BI h2 n hn;refine⟨x',a',g1,g2,fun i hi=>?_⟩
     rcases g3 i hi with h|⟨y,q1,q2,q3⟩
     ·exact .inl h
     ·exact .inr ⟨y,q1,q2,fun hq=>List.mem_append_right _ (q3 hq)⟩
   ·simp at h
  ·simp at h
theorem Bv {fs:List ew}:∀{ps:List (Nat×Nat)},fW fs ps=true→∀i j,(i,j)∈ps→oz (fs.getD i BE) (fs.getD j BE)=true
 |[],h,i,j,hm=>by simp at hm
 |(p,q)::r,h,i,j,hm=>by
  simp only[fW]at h;split at h
  ·rename_i a b ha hb;rw[lδ]at h;rcases mγ.1 hm with he|hm
   ·simp only[lε]at he;obtain⟨rfl,rfl⟩:=he;simp only[lρ,ha,hb,Option.getD_some];exact h.1
   ·exact Bv h.2 i j hm
  ·simp at h
structure Xp (x y:eW)(f g:ew):Prop where
 t1:∀d,x.dst=some d→d∉jW y
 t2:∀d,x.dst=some d→y.dst≠some d
 t3:∀d,y.dst=some d→d∉jW x
 r1:∀id,id∈g.rs∨id∈g.ws→wr f id=false
 r2:∀id,id∈f.rs∨id∈f.ws→wr g id=false
 gg:¬(f.grow=true∧g.grow=true)
theorem SY {x y:eW}(h:zo x y=true):(∀d,x.dst=some d→d∉jW y)∧(∀d,x.dst=some d→y.dst≠some d)∧(∀d,y.dst=some d→d∉jW x):=by
 unfold zo at h;rw[lδ]at h;refine⟨fun d hd=>?_,fun d hd=>?_,fun d hd=>?_⟩
 ·have:=h.1;rw[hd]at this;simp only[lδ]at this;simpa using this.1
 ·have:=h.1;rw[hd]at this;simp only[lδ]at this;intro he;rw[he]at this;simp at this
 ·have:=h.2;rw[hd]at this;simpa using this
theorem YM {f g:ew}(h:oz f g=true):(∀id,id∈g.rs∨id∈g.ws→wr f id=false)∧(∀id,id∈f.rs∨id∈f.ws→wr g id=false)∧¬(f.grow=true∧g.grow=true):=by
 unfold oz at h;simp only[lδ,mζ]at h;obtain⟨⟨⟨⟨h1,h2⟩,h3⟩,h4⟩,h5⟩:=h;refine⟨fun id hid=>?_,fun id hid=>?_,fun⟨a,b⟩=>by rw[a,b]at h5;simp at h5⟩
 ·rcases hid with hid|hid
  ·simpa using h1 id hid
  ·simpa using h2 id hid
 ·rcases hid with hid|hid
  ·simpa using h3 id hid
  ·simpa using h4 id hid
structure vR (call:aL)(base:Nat)(ops:List Oper)(xs:List eW)(an:List (List Nat))(σ:Nat→St)(F:Nat→ew):Prop where
 len:ops.length=xs.length
 step:∀(i:Nat) x,xs[i]?=some x→Wr call base x (σ i)=some (σ (i+1),F i)
 back:∀(j:Nat) o,ops[j]?=some o→∀d∈pS o,d<j
 anc:∀(j:Nat) o,ops[j]?=some o→∀x∈an.getD j [],x∈pS o∨∃d∈pS o,d<j∧x∈an.getD d []
 pair:∀(i j:Nat) x y,i<j→xs[i]?=some x→xs[j]?=some y→i∈an.getD j []∨Xp x y (F i) (F j)
theorem adW {call:aL}{base:Nat}{ops:List Oper}{xs:List eW}{ps:List (Nat×Nat)}{st st':St}{fs:List ew}(hl:ops.length=xs.length)(hb:km ops 0=true)(hp:pQ xs (GW ops []) (List.range xs.length)=some ps)(hev:ek call base xs st []=some (st',fs))(ha:fW fs ps=true):
  ∃σ F,σ 0=st∧σ xs.length=st'∧vR call base ops xs (GW ops []) σ F:=by
 obtain⟨σ,fl,h1,h2,h3,h4,h5⟩:=EX hev;simp at h3;subst h3;refine⟨σ,fun i=>fs.getD i BE,h1,h2,hl,h5,fun j o ho d hd=>by have:=xG hb j o ho d hd;omega,?_,?_⟩
 ·obtain⟨r,g1,g2,g3⟩:=Tl ops [];intro j o ho x hx;have:=g3 j o ho x (by simpa using hx);simpa using this
 ·intro i j x y hij hx hy;have hj:j<xs.length:=by
   rcases lπ j xs.length with h|h
   ·exact h
   ·simp[lθ h]at hy
  obtain⟨y',a,q1,q2,q3⟩:=BI hp j (by simpa using hj);rw[hy]at q1;simp at q1;subst q1;rcases q3 i hij with h|⟨x',p1,p2,p3⟩
  ·left;rw[lρ,q2];exact h
  ·rw[hx]at p1;simp at p1;subst p1;obtain⟨t1,t2,t3⟩:=SY p2;right;cases hh:(ed x.op&&ed y.op)with
   |true=>
    obtain⟨r1,r2,gg⟩:=YM (Bv ha i j (p3 hh));exact⟨t1,t2,t3,r1,r2,gg⟩
   |false=>
    have idle:∀{k:Nat} {z:eW},xs[k]?=some z→ed z.op=false→(fs.getD k BE).rs=[]∧(fs.getD k BE).ws=[]∧(fs.getD k BE).grow=false:=fun hz hh=>aaf (h5 _ _ hz) hh
    rw[Bool.and_eq_false_iff]at hh;rcases hh with hh|hh
    ·obtain⟨a1,a2,a3⟩:=idle hx hh;exact⟨t1,t2,t3,fun id _=>by simp only[wr,a2,a3];simp,fun id hid=>by simp only[a1,a2]at hid;simp at hid,fun hg=>by simp only[a3]at hg;simp at hg⟩
    ·obtain⟨a1,a2,a3⟩:=idle hy hh;exact⟨t1,t2,t3,fun id hid=>by simp only[a1,a2]at hid;simp at hid,fun id _=>by simp only[wr,a2,a3];simp,fun hg=>by simp only[a3]at hg;simp at hg⟩
section
variable {call:aL} {base:Nat} {ops:List Oper} {xs:List eW} {an:List (List Nat)} {σ:Nat→St} {F:Nat→ew}
def wrT (xs:List eW)(j t:Nat):Prop:=∃x,xs[j]?=some x∧x.dst=some t
def wrH (xs:List eW)(F:Nat→ew)(j id:Nat):Prop:=j<xs.length∧wr (F j) id=true
def wrL (xs:List eW)(F:Nat→ew)(j:Nat):Prop:=j<xs.length∧(F j).grow=true
theorem vR.stillT (p:vR call base ops xs an σ F){t:Nat}{m:Nat}:∀(k:Nat),m+k≤xs.length→(∀j,m≤j→j<m+k→¬wrT xs j t)→get (σ (m+k)).tm t=get (σ m).tm t
 |0,_,_=>rfl
 |k+1,hle,h=>by
  rw[←p.stillT k (by omega) fun j h1 h2=>h j h1 (by omega)];have hx:xs[m+k]?=some xs[m+k]:=lγ (by omega);obtain⟨st2',f',h1,h2⟩:=t5 (p.step _ _ hx) (st2:=σ (m+k)) (fun _ _=>rfl) (fun _ _=>rfl) (fun _=>rfl);rw[p.step _ _ hx]at h1;simp only[lα,lε]at h1;obtain⟨rfl,rfl⟩:=h1;exact h2.tm0 t fun e=>h (m+k) (by omega) (by omega) ⟨_,hx,e⟩
theorem vR.stillH (p:vR call base ops xs an σ F){id:Nat}{m:Nat}:∀(k:Nat),m+k≤xs.length→(∀j,m≤j→j<m+k→¬wrH xs F j id)→(σ (m+k)).hp[id]?=(σ m).hp[id]?
 |0,_,_=>rfl
 |k+1,hle,h=>by
  rw[←p.stillH k (by omega) fun j h1 h2=>h j h1 (by omega)];have hx:xs[m+k]?=some xs[m+k]:=lγ (by omega);obtain⟨st2',f',h1,h2⟩:=t5 (p.step _ _ hx) (st2:=σ (m+k)) (fun _ _=>rfl) (fun _ _=>rfl) (fun _=>rfl);rw[p.step _ _ hx]at h1;simp only[lα,lε]at h1;obtain⟨rfl,rfl⟩:=h1;refine h2.hp0 id ?_;cases hw:wr (F (m+k)) id with
  |false=>rfl
  |true=>exact absurd ⟨by omega,hw⟩ (h (m+k) (by omega) (by omega))
theorem vR.stillL (p:vR call base ops xs an σ F){m:Nat}:∀(k:Nat),m+k≤xs.length→(∀j,m≤j→j<m+k→¬wrL xs F j)→(σ (m+k)).hp.length=(σ m).hp.length
 |0,_,_=>rfl
 |k+1,hle,h=>by
  rw[←p.stillL k (by omega) fun j h1 h2=>h j h1 (by omega)];have hx:xs[m+k]?=some xs[m+k]:=lγ (by omega);obtain⟨st2',f',h1,h2⟩:=t5 (p.step _ _ hx) (st2:=σ (m+k)) (fun _ _=>rfl) (fun _ _=>rfl) (fun _=>rfl);rw[p.step _ _ hx]at h1;simp only[lα,lε]at h1;obtain⟨rfl,rfl⟩:=h1;refine h2.len0 ?_;cases hw:(F (m+k)).grow with
  |false=>rfl
  |true=>exact absurd ⟨by omega,hw⟩ (h (m+k) (by omega) (by omega))
structure Inv (xs:List eW)(σ:Nat→St)(F:Nat→ew)(X:Nat→Prop)(st:St):Prop where
 T:∀m,m≤xs.length→∀t,(∀j,j<m→wrT xs j t→X j)→(∀j,m≤j→wrT xs j t→¬X j)→get st.tm t=get (σ m).tm t
 H:∀m,m≤xs.length→∀id,(∀j,j<m→wrH xs F j id→X j)→(∀j,m≤j→wrH xs F j id→¬X j)→st.hp[id]?=(σ m).hp[id]?
 L:∀m,m≤xs.length→(∀j,j<m→wrL xs F j→X j)→(∀j,m≤j→wrL xs F j→¬X j)→st.hp.length=(σ m).hp.length
theorem vR.start (p:vR call base ops xs an σ F):Inv xs σ F (fun _=>False) (σ 0) where
 T m hm t h1 _:=by
  have:=p.stillT (m:=0) (t:=t) m (by omega) (fun j _ hj=>fun hw=>h1 j (by omega) hw);simpa using this.symm
 H m hm id h1 _:=by
  have:=p.stillH (m:=0) (id:=id) m (by omega) (fun j _ hj=>fun hw=>h1 j (by omega) hw);simpa using this.symm
 L m hm h1 _:=by
  have:=p.stillL (m:=0) m (by omega) (fun j _ hj=>fun hw=>h1 j (by omega) hw);simpa using this.symm
def abC (ops:List Oper)(X:Nat→Prop):Prop:=∀(j:Nat) o,ops[j]?=some o→X j→∀d∈pS o,X d
theorem vR.anc_in (p:vR call base ops xs an σ F){X:Nat→Prop}(hd:abC ops X):∀(j:Nat),(∀o,ops[j]?=some o→∀d∈pS o,X d)→j<ops.length→∀x∈an.getD j [],X x:=by
 intro j;induction j using Nat.strongRecOn with
 |_ j ih=>
  intro hj hlt x hx;have ho:ops[j]?=some ops[j]:=lγ hlt;rcases p.anc j _ ho x hx with h|⟨d,hd1,hd2,hx⟩
  ·exact hj _ ho x h
  ·exact ih d hd2 (fun o' ho'=>hd d o' ho' (hj _ ho d hd1)) (by omega) x hx
theorem vR.more (p:vR call base ops xs an σ F){X:Nat→Prop}{st:St}(hd:abC ops X)(inv:Inv xs σ F X st){i:Nat}{x:eW}(hx:xs[i]?=some x)(hni:¬X i)(hr:∀o,ops[i]?=some o→∀d∈pS o,X d):
  ∃st' f',Wr call base x st=some (st',f')∧Inv xs σ F (fun j=>X j∨j=i) st':=by
 have hlt:i<xs.length:=by
  rcases lπ i xs.length with h|h
  ·exact h
  ·simp[lθ h]at hx
 have hanc:∀k∈an.getD i [],X k:=p.anc_in hd i hr (by rw[p.len];exact hlt)
 -- what was run and is not oz from i comes ahead of it
 have before:∀j y,j<i→xs[j]?=some y→X j∨Xp y x (F j) (F i):=fun j y hj hy=>(p.pair j i y x hj hy hx).imp_left (hanc j)
 have behind:∀j y,i<j→xs[j]?=some y→X j→Xp x y (F i) (F j):=fun j y hj hy hX=>(p.pair i j x y hj hx hy).resolve_left fun h=>
  hni (p.anc_in hd j (fun o ho=>hd j o ho hX) (by
   rw[p.len];rcases lπ j xs.length with h|h
   ·exact h
   ·simp[lθ h]at hy) i h)
 have getx:∀j,j<xs.length→xs[j]?=some (xs.getD j x):=fun j hj=>by rw[lρ,lγ hj];rfl
 obtain⟨st',f',h1,h2⟩:=t5 (p.step i x hx) (st2:=st)
  (fun t ht=>inv.T i (by omega) t
   (fun j hj ⟨y,hy,hdt⟩=>(before j y hj hy).resolve_right fun ap=>ap.t1 t hdt ht)
   (fun j hj ⟨y,hy,hdt⟩ hX=>by
    rcases Nat.eq_or_lt_of_le hj with rfl|hj
    ·exact hni hX
    ·exact(behind j y hj hy hX).t3 t hdt ht))
  (fun id hid=>inv.H i (by omega) id
   (fun j hj ⟨hl,hw⟩=>(before j _ hj (getx j hl)).resolve_right fun ap=>by have:=ap.r1 id hid;rw[hw]at this;simp at this)
   (fun j hj ⟨hl,hw⟩ hX=>by
    rcases Nat.eq_or_lt_of_le hj with rfl|hj
    ·exact hni hX
    ·have:=(behind j _ hj (getx j hl) hX).r2 id hid;rw[hw]at this;simp at this))
  (fun hg=>inv.L i (by omega)
   (fun j hj ⟨hl,hw⟩=>(before j _ hj (getx j hl)).resolve_right fun ap=>ap.gg ⟨hw,hg⟩)
   (fun j hj ⟨hl,hw⟩ hX=>by
    rcases Nat.eq_or_lt_of_le hj with rfl|hj
    ·exact hni hX
    ·exact(behind j _ hj (getx j hl) hX).gg ⟨hg,hw⟩))
 refine⟨st',f',h1,⟨fun m hm t k1 k2=>?_,fun m hm id k1 k2=>?_,fun m hm k1 k2=>?_⟩⟩
 ·by_cases hdt:x.dst=some t
  ·have him:i<m:=by
    rcases lπ i m with h|h
    ·exact h
    ·exact absurd (.inr rfl) (k2 i h ⟨x,hx,hdt⟩)
   rw[h2.tm1 t hdt];have:=p.stillT (t:=t) (m:=i+1) (m - (i+1)) (by omega) (fun j hj1 hj2=>fun⟨y,hy,hyt⟩=>by
    have hX:=(k1 j (by omega) ⟨y,hy,hyt⟩).resolve_right (by omega);exact(behind j y (by omega) hy hX).t2 t hdt hyt)
   rw[show i+1+(m - (i+1))=m by omega]at this;exact this.symm
  ·rw[h2.tm0 t hdt];have hne:∀j,wrT xs j t→j≠i:=by
    rintro j ⟨y,hy,hyt⟩ rfl
    rw[hx]at hy;simp at hy;subst hy;exact hdt hyt
   exact inv.T m hm t (fun j hj hw=>(k1 j hj hw).resolve_right (hne j hw)) (fun j hj hw hX=>k2 j hj hw (.inl hX))
 ·cases hwi:wr (F i) id with
  |true=>
   have him:i<m:=by
    rcases lπ i m with h|h
    ·exact h
    ·exact absurd (.inr rfl) (k2 i h ⟨hlt,hwi⟩)
   rw[h2.hp1 id hwi];have:=p.stillH (id:=id) (m:=i+1) (m - (i+1)) (by omega) (fun j hj1 hj2=>fun⟨hl,hw⟩=>by
    have hX:=(k1 j (by omega) ⟨hl,hw⟩).resolve_right (by omega);have ap:=behind j _ (by omega) (getx j hl) hX;rw[wr_iff]at hwi hw;rcases hwi with h|⟨hg,hlim⟩
    ·have:=ap.r2 id (.inr h);rw[wr_iff.2 hw]at this;simp at this
    ·rcases hw with h|⟨hg',_⟩
     ·have:=ap.r1 id (.inr h);have hh:wr (F i) id=true:=wr_iff.2 (.inr ⟨hg,hlim⟩);rw[hh]at this;simp at this
     ·exact ap.gg ⟨hg,hg'⟩)
   rw[show i+1+(m - (i+1))=m by omega]at this;exact this.symm
  |false=>
   rw[h2.hp0 id hwi];have hne:∀j,wrH xs F j id→j≠i:=by
    rintro j ⟨hl,hw⟩ rfl
    rw[hwi]at hw;simp at hw
   exact inv.H m hm id (fun j hj hw=>(k1 j hj hw).resolve_right (hne j hw)) (fun j hj hw hX=>k2 j hj hw (.inl hX))
 ·cases hwi:(F i).grow with
  |true=>
   have him:i<m:=by
    rcases lπ i m with h|h
    ·exact h
    ·exact absurd (.inr rfl) (k2 i h ⟨hlt,hwi⟩)
   rw[h2.len1 hwi];have:=p.stillL (m:=i+1) (m - (i+1)) (by omega) (fun j hj1 hj2=>fun⟨hl,hw⟩=>by
    have hX:=(k1 j (by omega) ⟨hl,hw⟩).resolve_right (by omega);exact(behind j _ (by omega) (getx j hl) hX).gg ⟨hwi,hw⟩)
   rw[show i+1+(m - (i+1))=m by omega]at this;exact this.symm
  |false=>
   rw[h2.len0 hwi];have hne:∀j,wrL xs F j→j≠i:=by
    rintro j ⟨hl,hw⟩ rfl
    rw[hwi]at hw;simp at hw
   exact inv.L m hm (fun j hj hw=>(k1 j hj hw).resolve_right (hne j hw)) (fun j hj hw hX=>k2 j hj hw (.inl hX))
theorem Inv.all {X:Nat→Prop}{st:St}(inv:Inv xs σ F X st)(h:∀j,j<xs.length→X j):(∀t,get st.tm t=get (σ xs.length).tm t)∧st.hp=(σ xs.length).hp:=by
 refine⟨fun t=>inv.T _ (Nat.le_refl _) t (fun j hj _=>h j hj) (fun j hj ⟨y,hy,_⟩=>by rw[lθ hj]at hy;simp at hy),?_⟩
 apply List.ext_getElem?;intro id;exact inv.H _ (Nat.le_refl _) id (fun j hj _=>h j hj) (fun j hj ⟨hl,_⟩=>absurd hj (by omega))
end
end Go.Ab
end
section
namespace Go.Ab
open Go
variable [Letters] [Mv]
def cW (listed:Array Bool)(j:Nat):Prop:=listed[j]?=some true
section
variable {P:Program} {G:ce} {N:Nat} {call:aL} {base:Nat} {ops:Array Oper} {xs:List eW} {an:List (List Nat)} {σ:Nat→St} {F:Nat→ew}
theorem Gb {listed:Array Bool}(hs:listed.size=ops.size){i:Nat}:i∈Region.ready .any ops listed↔i<ops.size∧listed[i]?=some false∧∀o,ops[i]?=some o→∀d∈pS o,cW listed d:=by
 unfold Region.ready;rw[List.mem_filter];have hget:∀{j:Nat},listed.getD j false=true↔cW listed j:=by
  intro j;unfold cW;rw[Array.getD_eq_getD_getElem?];cases listed[j]? with
  |none=>simp
  |some b=>simp
 constructor
 ·rintro⟨h1,h2⟩
  have hi:i<ops.size:=by simpa using h1
  rw[lδ]at h2;obtain⟨h3,h4⟩:=h2;have hl:listed[i]?=some listed[i]:=Array.getElem?_eq_getElem (by omega);refine⟨hi,?_,?_⟩
  ·rw[Array.getD_eq_getD_getElem?,hl]at h3;rw[hl];simpa using h3
  ·intro o ho d hd;rw[ho]at h4;simp only[Option.map_some,Option.getD_some]at h4;simp only[pS,List.mem_map,List.mem_filter]at hd;obtain⟨e,⟨he,hb⟩,rfl⟩:=hd;have h5:=Array.all_eq_true'.1 h4 e (by simpa using he);have:mf e=Region.binds .any e:=rfl;rw[←this,hb]at h5;exact hget.1 (by simpa using h5)
 ·rintro⟨hi,hl,h⟩
  refine⟨by simpa using hi,?_⟩
  rw[lδ];refine⟨by rw[Array.getD_eq_getD_getElem?,hl];rfl,?_⟩
  have ho:ops[i]?=some ops[i]:=Array.getElem?_eq_getElem hi;rw[ho];simp only[Option.map_some,Option.getD_some];rw[Array.all_eq_true'];intro e he;cases hb:mf e with
  |false=>
   have:Region.binds .any e=false:=hb;simp[this]
  |true=>
   have:=h _ ho e.on (by
    simp only[pS,List.mem_map,List.mem_filter];exact⟨e,⟨by simpa using he,hb⟩,rfl⟩)
   rw[hget.2 this];simp
theorem IX (p:vR call base ops.toList xs an σ F){listed:Array Bool}(hs:listed.size=ops.size)(h:Region.ready .any ops listed=[]):∀j,j<xs.length→cW listed j:=by
 intro j;induction j using Nat.strongRecOn with
 |_ j ih=>
  intro hj;have hjo:j<ops.size:=by have:=p.len;simp at this;omega
  have hl:listed[j]?=some listed[j]:=Array.getElem?_eq_getElem (by omega);cases hc:listed[j]with
  |true=>unfold cW;rw[hl,hc]
  |false=>
   exfalso;have:j∈Region.ready .any ops listed:=(Gb hs).2 ⟨hjo,by rw[hl,hc],fun o ho d hd=>by
    have:=p.back j o (by simpa using ho) d hd;exact ih d this (by omega)⟩
   rw[h]at this;simp at this
theorem Wb {l:List Bool}:∀{i:Nat},l[i]?=some false→(l.set i true).count false+1=l.count false:=by
 induction l with
 |nil=>intro i h;simp at h
 |cons x r ih=>
  intro i h;cases i with
  |zero=>simp at h;subst h;simp
  |succ i=>
   simp at h;have:=ih h;cases x<;>simp[List.count_cons]<;>omega
theorem afs (hcall:dV P G call)(p:vR call base ops.toList xs an σ F){raw:Nat→Bool}(hx:Pw (abJ P G raw N ops.toList) ops.toList xs){Q:Exit→Act→World→Prop}:∀(fuel:Nat) (listed:Array Bool) (st:St) (a:Act) (φ:List cH) (w:World) (S:Nat→Prop),listed.size=ops.size→listed.toList.count false≤fuel→
  abC ops.toList (cW listed)→Inv xs σ F (cW listed) st→uR G N a φ w S st→base≤st.hp.length→
  (∀a' w' φ' S',uR G N a' φ' w' S' (σ xs.length)→Fr (bC φ st.hp) S w (bC φ' (σ xs.length).hp) S' w'→(∀id,id<base→φ'[id]?=φ[id]?)→base≤(σ xs.length).hp.length→Q .normal a' w')→
  wpAny P .any ops Q fuel listed a w:=by
 have fin:∀(listed:Array Bool) (st:St) (a:Act) (φ:List cH) (w:World) (S:Nat→Prop),Inv xs σ F (cW listed) st→uR G N a φ w S st→base≤st.hp.length→
   (∀a' w' φ' S',uR G N a' φ' w' S' (σ xs.length)→Fr (bC φ st.hp) S w (bC φ' (σ xs.length).hp) S' w'→(∀id,id<base→φ'[id]?=φ[id]?)→base≤(σ xs.length).hp.length→Q .normal a' w')→
   (∀j,j<xs.length→cW listed j)→Q .normal a w:=by
  intro listed st a φ w S inv rel hb hQ hall;obtain⟨h1,h2⟩:=inv.all hall;refine hQ a w φ S ⟨fun t=>by rw[←h1 t];exact rel.tmr t,rel.gr,by rw[←h2];exact rel.hr,rel.size,rel.defers⟩ ?_ (fun _ _=>rfl) (by rw[←h2];exact hb)
  rw[←h2];exact Fr.refl _ _ _
 intro fuel;induction fuel with
 |zero=>
  intro listed st a φ w S hs hc hd inv rel hb hQ;simp only[wpAny];have hno:∀j:Nat,listed[j]?≠some false:=by
   intro j hj;have hm:false∈listed.toList:=mι (by simpa using hj);have:=List.count_pos_iff.2 hm;omega
  have hnil:Region.ready .any ops listed=[]:=by
   cases hr:Region.ready .any ops listed with
   |nil=>rfl
   |cons i r=>
    have:i∈Region.ready .any ops listed:=by rw[hr];simp
    exact absurd ((Gb hs).1 this).2.1 (hno i)
  exact⟨hnil,fin listed st a φ w S inv rel hb hQ (IX p hs hnil)⟩
 |succ fuel ih=>
  intro listed st a φ w S hs hc hd inv rel hb hQ;simp only[wpAny];refine⟨fun hnil=>fin listed st a φ w S inv rel hb hQ (IX p hs hnil),fun i hi=>?_⟩
  obtain⟨hio,hlf,hpr⟩:=(Gb hs).1 hi;have ho:ops.toList[i]?=some ops[i]:=by simp[hio]
  obtain⟨x,hxi,hox⟩:=hx.get ho;have hni:¬cW listed i:=by unfold cW;rw[hlf];simp
  obtain⟨st',f',hev,inv'⟩:=p.more hd inv hxi hni (fun o ho' d hd'=>hpr o (by simpa using ho') d hd');have hli:i<listed.size:=by omega
  have hX:∀j,cW (listed.setIfInBounds i true) j↔(cW listed j∨j=i):=by
   intro j;unfold cW;rw[Array.getElem?_setIfInBounds];by_cases hij:i=j
   ·subst hij;simp[hli]
   ·simp[hij];intro e;exact absurd e.symm hij
  have hs':(listed.setIfInBounds i true).size=ops.size:=by simpa using hs
  have hc':(listed.setIfInBounds i true).toList.count false≤fuel:=by
   have:=Wb (l:=listed.toList) (i:=i) (by simpa using hlf);simp only[Array.toList_setIfInBounds];omega
  have hd':abC ops.toList (cW (listed.setIfInBounds i true)):=by
   intro j o hj hXj d hdp;rw[hX]at hXj ⊢
   rcases hXj with h|rfl
   ·exact .inl (hd j o hj h d hdp)
   ·exact .inl (hpr o (by simpa using hj) d hdp)
  have hinv':Inv xs σ F (cW (listed.setIfInBounds i true)) st':=by
   have:cW (listed.setIfInBounds i true)=fun j=>cW listed j∨j=i:=by funext j;exact propext (hX j)
   rw[this];exact inv'
  have hop:ops[i]?=some ops[i]:=Array.getElem?_eq_getElem hio;simp only[wpOp,hop];unfold Wr at hev;split at hev
  ·simp at hev
  ·rename_i hgd;rw[if_pos (by rw[xV rel.tmr hox hgd])];refine .inl (ae2 hcall rel hox.op hox.dst hox.lt hb hev fun a' w' φ' S' rel' hf hφ=>?_);refine ih _ st' a' φ' w' S' hs' hc' hd' hinv' rel' (qκ hb (Oq hev)) fun a2 w2 φ2 S2 r1 r2 r3 r4=>hQ a2 w2 φ2 S2 r1 (hf.trans r2) (fun id hid=>(r3 id hid).trans (hφ id hid)) r4
  ·rename_i hgd;rw[if_neg (by rw[xV rel.tmr hox hgd];simp)];have hdo:Ih (ops[i]).dst a:=fun t ht=>qη (hox.lt t ht) rel.size
   simp only[lα,lε]at hev;obtain⟨rfl,rfl⟩:=hev;rw[hox.dst]at hinv';exact ih _ _ _ φ w S hs' hc' hd' hinv' (rel.skip hdo) hb hQ
variable {a:Act} {φ:List cH} {w:World} {S:Nat→Prop} {st:St}
theorem uR.drawn (h:uR G N a φ w S st)(n:Nat):uR G N a φ {w with drawn:=n} S st:=by
 have hst:eL S w {w with drawn:=n}:=fun _ _=>rfl
 exact⟨m5 (Ext.refl φ) hst (fun _ h=>h) h.tmr,C1 hst (fun _ h=>h) h.gr,⟨h.hr.len,fun id l o h1 h2=>xj (Ext.refl φ) hst (fun _ h=>h) (fun _ _=>rfl) (h.hr.obj id l o h1 h2),h.hr.own,h.hr.one,h.hr.low⟩,h.size,h.defers⟩
theorem SN (hcall:dV P G call)(hm:P.follows .mixedOrders=true){raw:Nat→Bool}{id:Nat}{xs:List eW}{nal k:Nat}{ps:List (Nat×Nat)}{Q:Exit→Act→World→Prop}{stn:St}{m:Nat}(hx:RH P G raw N ops.toList ops.toList 0=some (xs,k))
  (hed:km ops.toList 0=true) (hps:pQ xs (GW ops.toList []) (List.range xs.length)=some ps) (hev:BA call nal xs (some ps) st=some stn)
  (rel:uR G N a φ w S st) (hmm:m≤st.hp.length) (hQ:∀a' w',Later G N m φ w S st stn a' w'→Q .normal a' w'):(Code.region id ops true).wp P Q a w:=by
 have hpw:=Ke hx;simp only[BA]at hev;split at hev
 ·rename_i st2 fs hseq;obtain⟨hap,hev⟩:=jJ hev;simp only[lα]at hev;subst hev;obtain⟨σ,F,hσ0,hσn,plan⟩:=adW hpw.1 hed hps hseq hap;have hlen:=rel.hr.len;have hres:=rel.hr.reserve nal;refine wp_region_any hm (afs hcall plan hpw ops.size _ (σ 0) a (φ++List.replicate nal .none) _ S (by simp) (by simp) (fun j o hj hX=>?_) ?_ (by rw[hσ0];exact(rel.reserve nal).drawn _) (by rw[hσ0];simp[kM]) fun a' w' φ' S' r1 r2 r3 r4=>hQ a' w' ?_)
  ·simp[cW]at hX;rw[Array.getElem?_replicate]at hX;split at hX<;>simp at hX
  ·have:cW (Array.replicate ops.size false)=fun _=>False:=by
    funext j
    unfold cW;rw[Array.getElem?_replicate];split<;>simp
   rw[this];exact plan.start
  ·rw[hσn]at r1 r2 r4;rw[hσ0]at r2;refine⟨φ',S',r1,?_,fun id hid=>by rw[r3 id (by omega),lκ (by omega)],qκ hmm r4⟩
   refine Fr.trans (O1:=bC (φ++List.replicate nal .none) (grow st.hp (List.replicate nal .unborn))) (S1:=S) (w1:={w with drawn:=w.drawn+1}) ?_ r2;rw[kM];exact⟨fun _ _ _=>rfl,Nat.le_refl _,rfl,rfl,rfl,fun _ h=>h,fun _ h=> .inl h,fun b hb=> .inl (hres.2.1 b hb)⟩
 ·simp at hev
end
end Go.Ab
end
section
namespace Go.Ab
open Go
variable [Letters] [Mv]
section
variable {P:Program} {G:ce} {N m:Nat} {call:aL} {a:Act} {φ:List cH} {w:World} {S:Nat→Prop} {st st':St} {hp:List Ob}
theorem Later.refl (rel:uR G N a φ w S st)(hm:m≤st.hp.length):Later G N m φ w S st st a w:=⟨φ,S,rel,Fr.refl _ _ _,fun _ _=>rfl,hm⟩
theorem HR.push (hr:HR φ w S hp){l:cH}{o:Ob}(hob:OR (φ++[l]) w S l o)(hown:∀b,bY l o≠some b):HR (φ++[l]) w S (hp++[o])∧(∀b,bC (φ++[l]) (hp++[o]) b→bC φ hp b)∧Ext φ (φ++[l]):=by
 have hext:Ext φ (φ++[l]):=by
  intro id x hl _;have:id<φ.length:=by
   rcases lπ id φ.length with h|h
   ·exact h
   ·simp[lθ h]at hl
  rw[lκ this];exact hl
 have hat:∀{id:Nat} {x:cH} {y:Ob},(φ++[l])[id]?=some x→(hp++[o])[id]?=some y→(φ[id]?=some x∧hp[id]?=some y)∨(x=l∧y=o):=by
  intro id x y h1 h2;rcases lπ id hp.length with h|h
  ·rw[lκ h]at h2;rw[lκ (by rw[hr.len];exact h)]at h1;exact .inl ⟨h1,h2⟩
  ·rw[lσ h]at h2;rw[lσ (by rw[hr.len];exact h),hr.len]at h1;cases hk:id - hp.length with
   |zero=>rw[hk]at h1 h2;simp at h1 h2;exact .inr ⟨h1.symm,h2.symm⟩
   |succ n=>rw[hk]at h1;simp at h1
 have hown':∀b,bC (φ++[l]) (hp++[o]) b→bC φ hp b:=by
  rintro b ⟨id,x,y,h1,h2,h3⟩
  rcases hat h1 h2 with⟨g1,g2⟩|⟨rfl,rfl⟩
  ·exact⟨id,x,y,g1,g2,h3⟩
  ·exact absurd h3 (hown b)
 refine⟨⟨by simp[hr.len],?_,fun b hb=>hr.own b (hown' b hb),?_,hr.low⟩,hown',hext⟩
 ·intro id x y h1 h2;rcases hat h1 h2 with⟨g1,g2⟩|⟨rfl,rfl⟩
  ·exact xj hext (fun _ _=>rfl) (fun _ h=>h) (fun _ _=>rfl) (hr.obj id x y g1 g2)
  ·exact hob
 ·intro id id' x x' y y' b h1 h2 h1' h2' h3 h3';rcases hat h1 h2 with⟨g1,g2⟩|⟨rfl,rfl⟩
  ·rcases hat h1' h2' with⟨g1',g2'⟩|⟨rfl,rfl⟩
   ·exact hr.one id id' x x' y y' b g1 g2 g1' g2' h3 h3'
   ·exact absurd h3' (hown b)
  ·exact absurd h3 (hown b)
theorem Un {d:D}{v:Value}(h:VR φ w S d v)(ho:WT d=true):∃ad,v= .slice ad 0 0:=by
 unfold WT at ho;split at ho
 ·simp only[VR]at h;obtain⟨ad,cap,us,rfl,h1,h2,_⟩:=h;simp only[jX]at h2;have:us=[]:=lν (by omega);subst this;exact⟨ad,by rw[h2.2];rfl⟩
 ·simp only[VR,um]at h;obtain⟨ad,cap,us,rfl,h1,h2,h3,_⟩:=h;subst h3;simp only[jX]at h2;subst h2;exact⟨ad,rfl⟩
 ·simp at ho
theorem NG {ad:Option Addr}{z:Nat}{id:Nat}(h:φ[id]?=some (.arr 0 0 0 z 0)):VR φ w S (.arr id 0 0 z) (.slice ad 0 0):=by
 simp only[VR];exact⟨0,0,0,0,ad,h,by simp,by simp,by simp,by simp⟩
theorem F0 (hr:HR φ w S hp)(z:Nat):HR (φ++[.arr 0 0 0 z 0]) w S (hp++[.arr []])∧(∀b,bC (φ++[.arr 0 0 0 z 0]) (hp++[.arr []]) b→bC φ hp b)∧Ext φ (φ++[.arr 0 0 0 z 0]):=
 hr.push (by
  simp only[OR];exact⟨rfl,Nat.le_refl _,fun h=>absurd h (Nat.lt_irrefl 0),[],Pw.nil,by intro i u hu;simp at hu⟩) (by intro b;simp[bY])
theorem NF {tm:Tm}{s:Nat}{d:D}(h:Xl φ w S tm a)(hd:VR φ w S d (a.tmps.getD s undef)):Xl φ w S (.cons s d tm) a:=by
 intro t;simp only[get];rw[beq_eq];by_cases hs:s=t
 ·subst hs;simpa using hd
 ·simp only[hs,decide_false,cond_false];exact h t
theorem WA (rel:uR G N a φ w S st)(hm:m≤st.hp.length){n:Nat}{ws:List Nat}(live:List Nat):Later G N m φ w S st ⟨fq live (mapD (idx (cr st.hp n ws (List.range m)))) st.tm,cb (cr st.hp n ws (List.range m)) st.hp⟩ a w:=by
 have hnd:=(gt (hp:=st.hp) n ws (List.range m) List.nodup_range).1;have hlen:=rel.hr.len;refine⟨lP (cr st.hp n ws (List.range m)) φ,S,⟨fun t=>?_,rel.gr,rel.hr.shrink hnd,rel.size,rel.defers⟩,(Fr.refl _ _ _).less fun b hb=>TZ rel.hr _ hb,fun id hid=>It (by omega) hid,?_⟩
 ·rw[E9];split
  ·exact EA (ua _ φ) _ (rel.tmr t)
  ·simp only[VR]
 ·obtain⟨r,hr⟩:=(gt (hp:=st.hp) n ws (List.range m) List.nodup_range).2;simp only[cb,lβ];rw[←hr];simp
theorem TT {g:Gh}(h:nH m g st=some st')(rel:uR G N a φ w S st)(hm:m≤st.hp.length):Later G N m φ w S st st' a w:=by
 have hlen:=rel.hr.len;cases g with
 |own s z=>
  simp only[nH]at h;cases hc:WT (get st.tm s)with
  |false=>rw[hc]at h;simp at h;subst h;exact Later.refl rel hm
  |true=>
   rw[hc]at h;simp only[cond_true,lα]at h;subst h;obtain⟨h1,h2,h3⟩:=F0 rel.hr z;obtain⟨ad,hv⟩:=Un (rel.tmr s) hc;refine⟨φ++[.arr 0 0 0 z 0],S,⟨NF (m5 h3 (fun _ _=>rfl) (fun _ h=>h) rel.tmr) ?_,rel.gr,h1,rel.size,rel.defers⟩,(Fr.refl _ _ _).less h2,fun id hid=>lκ (by omega),by simp;omega⟩
   rw[hv];exact NG (by rw[←hlen];simp)
 |ownc s off z=>
  simp only[nH]at h;split at h
  ·rename_i id o hs;split at h
   ·rename_i cs hcs;split at h
    ·rename_i d hd;cases hc:WT d with
     |false=>rw[hc]at h;simp at h;subst h;exact Later.refl rel hm
     |true=>
      rw[hc]at h;simp only[cond_true,lα]at h;subst h;obtain⟨h1,h2,h3⟩:=F0 rel.hr z;have hob:=iU hcs (by simp);have hvs:=rel.tmr s;rw[hs]at hvs;simp only[VR]at hvs;obtain⟨b,hb,_⟩:=hvs;have hidl:id<st.hp.length:=by
       rcases lπ id st.hp.length with h|h
       ·exact h
       ·simp[lθ h]at hob
      have hob1:(st.hp++[Ob.arr []])[id]?=some (.box cs):=by rw[lκ hidl];exact hob
      have hb1:(φ++[cH.arr 0 0 0 z 0])[id]?=some (.box b):=by rw[lκ (by omega)];exact hb
      obtain⟨vs,t,fz,g1,g2,g3,g4⟩:=h1.obj id _ _ hb1 hob1;obtain⟨v,hv1,hv2⟩:=g3.get hd;obtain⟨ad,hv⟩:=Un hv2 hc;have hphi:(φ++[cH.arr 0 0 0 z 0]).set id (.box b)=φ++[cH.arr 0 0 0 z 0]:=fi hb1;have hnew:(φ++[cH.arr 0 0 0 z 0])[st.hp.length]?=some (.arr 0 0 0 z 0):=by rw[←hlen];simp
      have hown:=h1.own b ⟨id,_,_,hb1,hob1,rfl⟩;obtain⟨k1,k2,k3⟩:=h1.one_step (S':=S) (w':=w) (l':= .box b) (o':= .box (cs.set (o+off) (.arr st.hp.length 0 0 z))) hb1 hob1 (fun _=>rfl) (fun _ _ _=>rfl) (Nat.le_refl _) rfl rfl rfl (fun _ h=>h) (fun _ h=> .inl h) h1.low (by
       rw[hphi];simp only[OR];refine⟨vs,t,fz,g1,g2,?_,g4⟩;have:=g3.set (o+off) (x:= .arr st.hp.length 0 0 z) (v:=v) (by rw[hv];exact NG hnew);rwa [fi hv1]at this) (by
       intro b' hb';simp only[bY,lα]at hb';subst hb';exact⟨.inl rfl,hown.2,hown.1⟩)
      rw[hphi]at k1 k2;have he:yN st.hp id (.box (cs.set (o+off) (.arr st.hp.length 0 0 z)))++[Ob.arr []]=(st.hp++[Ob.arr []]).set id (.box (cs.set (o+off) (.arr st.hp.length 0 0 z))):=by
       rw[bv,List.set_append_left _ _ hidl]
      refine⟨φ++[.arr 0 0 0 z 0],S,⟨m5 h3 (fun _ _=>rfl) (fun _ h=>h) rel.tmr,rel.gr,by rw[he];exact k1,rel.size,rel.defers⟩,?_,fun id hid=>lκ (by omega),by simp[bv];omega⟩
      rw[he];exact Fr.trans ((Fr.refl _ _ _).less h2) k2
    ·simp at h
   ·simp at h
  ·simp at h
 |frz s=>
  simp only[nH]at h;split at h
  ·rename_i x hx;simp only[lα]at h;subst h;have hz:((dids (get st.tm s)).map fun i=>(i,bc st.hp i))=(dids (get st.tm s)).zip ((dids (get st.tm s)).map (bc st.hp)):=(zu (bc st.hp) _).symm;rw[hz]at hx ⊢
   obtain⟨h1,h2⟩:=rel.hr.freeze (dids (get st.tm s));have hv:=qV rel.hr (S':=MY φ S st.hp (dids (get st.tm s))) (fun _ h=> .inl h) rV _ hx (rel.tmr s);refine⟨φ,_,⟨NF (m5 (Ext.refl φ) (fun _ _=>rfl) (fun _ h=> .inl h) rel.tmr) (by simp only[VR];exact hv),C1 (fun _ _=>rfl) (fun _ h=> .inl h) rel.gr,h1,rel.size,rel.defers⟩,h2,fun _ _=>rfl,by rw[bQ];exact hm⟩
  ·simp at h
 |frzc s off=>
  simp only[nH]at h;split at h
  ·rename_i id o hs;split at h
   ·rename_i cs hcs;split at h
    ·rename_i d hd;cases hc:(dids d).contains id with
     |true=>rw[hc]at h;simp at h
     |false=>
      rw[hc]at h;simp only[cond_false]at h;split at h
      ·rename_i x hx;simp only[lα]at h;subst h;have hni:id∉dids d:=by simpa using hc
       have hz:((dids d).map fun i=>(i,bc st.hp i))=(dids d).zip ((dids d).map (bc st.hp)):=(zu (bc st.hp) _).symm;rw[hz]at hx ⊢
       obtain⟨h1,h2⟩:=rel.hr.freeze (dids d);have hob:=iU hcs (by simp);have hvs:=rel.tmr s;rw[hs]at hvs;simp only[VR]at hvs;obtain⟨b,hb,_⟩:=hvs;obtain⟨vs0,t0,fz0,e1,e2,e3,e4⟩:=rel.hr.obj id _ _ hb hob;obtain⟨v,hv1,hv2⟩:=e3.get hd;have hv:=qV rel.hr (S':=MY φ S st.hp (dids d)) (fun _ h=> .inl h) rV _ hx hv2;have hob1:(aA st.hp (dD ((dids d).zip ((dids d).map (bc st.hp)))))[id]?=some (.box cs):=by
        rw[E8,ge,if_neg (fun h=>hni h.1)];exact hob
       obtain⟨vs,t,fz,g1,g2,g3,g4⟩:=h1.obj id _ _ hb hob1;have hvv:vs=vs0:=by
        rw[e1]at g1;simp at g1;exact g1.1.symm
       subst hvv;have hphi:φ.set id (.box b)=φ:=fi hb;have hown:=h1.own b ⟨id,_,_,hb,hob1,rfl⟩;obtain⟨k1,k2,k3⟩:=h1.one_step (S':=MY φ S st.hp (dids d)) (w':=w) (l':= .box b) (o':= .box (cs.set (o+off) (.p x))) hb hob1 (fun _=>rfl) (fun _ _ _=>rfl) (Nat.le_refl _) rfl rfl rfl (fun _ h=>h) (fun _ h=> .inl h) h1.low (by
        rw[hphi];simp only[OR];refine⟨vs,t,fz,g1,g2,?_,g4⟩;have:=g3.set (o+off) (x:= .p x) (v:=v) (by simp only[VR];exact hv);rwa [fi hv1]at this) (by
        intro b' hb';simp only[bY,lα]at hb';subst hb';exact⟨.inl rfl,hown.2,hown.1⟩)
       rw[hphi]at k1 k2;refine⟨φ,MY φ S st.hp (dids d),⟨m5 (Ext.refl φ) (fun _ _=>rfl) (fun _ h=> .inl h) rel.tmr,C1 (fun _ _=>rfl) (fun _ h=> .inl h) rel.gr,by rw[bv];exact k1,rel.size,rel.defers⟩,?_,fun _ _=>rfl,by rw[bv,List.length_set,bQ];exact hm⟩
       rw[bv];exact Fr.trans h2 k2
      ·simp at h
    ·simp at h
   ·simp at h
  ·simp at h
 |keep live=>
  simp only[nH,lα]at h;subst h;exact WA rel hm live
theorem Later.bind {φ1:List cH}{S1:Nat→Prop}{w1:World}{st1 st2:St}{a2:Act}{w2:World}(hf:Fr (bC φ st.hp) S w (bC φ1 st1.hp) S1 w1)(hφ:∀id,id<m→φ1[id]?=φ[id]?)(h:Later G N m φ1 w1 S1 st1 st2 a2 w2):Later G N m φ w S st st2 a2 w2:=by
 obtain⟨φ2,S2,r1,r2,r3,r4⟩:=h;exact⟨φ2,S2,r1,hf.trans r2,fun id hid=>(r3 id hid).trans (hφ id hid),r4⟩
def GC (ex:Ex):Exit→Prop
 | .normal=>ex= .norm
 | .exit i=>ex= .exit i
 | .ret=>ex= .ret
 |_=>False
def Post (G:ce)(N m:Nat)(φ:List cH)(w:World)(S:Nat→Prop)(st:St)(r:Ex×St)(e:Exit)(a':Act)(w':World):Prop:=GC r.1 e∧Later G N m φ w S st r.2 a' w'
theorem Post.bind {φ1:List cH}{S1:Nat→Prop}{w1:World}{st1:St}{r:Ex×St}{e:Exit}{a2:Act}{w2:World}(hf:Fr (bC φ st.hp) S w (bC φ1 st1.hp) S1 w1)(hφ:∀id,id<m→φ1[id]?=φ[id]?)(h:Post G N m φ1 w1 S1 st1 r e a2 w2):Post G N m φ w S st r e a2 w2:=
 ⟨h.1,h.2.bind hf hφ⟩
theorem MF {c:Code}{Q:Exit→Act→World→Prop}(I:Nat→Act→World→Prop)(zero:∀a w,¬I 0 a w)(round:∀n a w,I (n+1) a w→c.wp P (Exit.then (I n) Q) a w){n:Nat}(h₀:I n a w):(Code.loop c).wp P Q a w:=by
 intro b k cs;have key:∀n a w,I n a w→∃e a' w',Q e a' w'∧Arrives P (lone (b.at a (.code c:: .inLoop c::k)) cs w) b k cs e a' w':=by
  intro n;induction n with
  |zero=>intro a w h;exact absurd h (zero a w)
  |succ n ih=>
   intro a w hI;obtain⟨e,a₁,w₁,hq,harr⟩:=round n a w hI b (.inLoop c::k) cs;cases e with
   |normal=>
    obtain⟨e₂,a₂,w₂,hq₂,harr₂⟩:=ih a₁ w₁ hq;exact⟨e₂,a₂,w₂,hq₂,.of_steps (Steps.trans harr (.one step_inLoop)) harr₂⟩
   |exit id=>exact⟨_,a₁,w₁,hq,.pass (x:= .inLoop c) rfl (fun _ _=> .inl (by simp)) harr⟩
   |goto l=>exact⟨_,a₁,w₁,hq,.pass (x:= .inLoop c) rfl (fun _ _=> .inl (by simp)) harr⟩
   |ret=>exact⟨_,a₁,w₁,hq,.pass (x:= .inLoop c) rfl (fun _ _=> .inl (by simp)) harr⟩
   |panic ch=>exact⟨_,a₁,w₁,hq,.pass (x:= .inLoop c) rfl (fun _ _=> .inl (by simp)) harr⟩
   |outgrown=>exact⟨_,a₁,w₁,hq,.pass (x:= .inLoop c) rfl (fun _ _=> .inl (by simp)) harr⟩
 obtain⟨e,a',w',hq,harr⟩:=key n a w h₀;exact⟨e,a',w',hq,.of_steps (.one step_loop) harr⟩
end
end Go.Ab
end
section
namespace Go.Ab
open Go
variable [Letters] [Mv]
section
variable {P:Program} {G:ce} {raw:Nat→Bool} {N m:Nat} {call:aL} {a:Act} {φ:List cH} {w:World} {S:Nat→Prop} {st st':St} {hp:List Ob}
def I8 (P:Program)(G:ce)(raw:Nat→Bool)(N:Nat)(c:Code):Co→Prop
 | .skip=>c= .skip
 | .reg nal xs ps _=>∃id ops draw,c= .region id ops draw∧VY P G raw N ops.toList draw=some (.reg nal xs ps [])
 | .seq x y=>∃a b,c= .seq a b∧Kc P G raw N a=some x∧Kc P G raw N b=some y
 | .cond z x y=>∃o a b,c= .cond o a b∧cA P G 0 o=some z∧Kc P G raw N a=some x∧Kc P G raw N b=some y
 | .block id x=>∃a,c= .block id a∧Kc P G raw N a=some x
 | .loop _ x=>∃a,c= .loop a∧Kc P G raw N a=some x
 | .exit id=>c= .exit id
 | .ret=>c= .ret
 | .gh _ _=>False
theorem sI {c:Code}{k:Co}(h:Kc P G raw N c=some k):I8 P G raw N c k:=by
 cases c<;>simp only[Kc]at h;case skip=>simp only[lα]at h;subst h;rfl
 case region id ops draw=>
  have h0:=h;unfold VY at h;split at h
  ·simp at h
  ·rename_i xs n hx;cases draw with
   |false=>
    simp only[cond_false,lα]at h;subst h;exact⟨id,ops,false,rfl,h0⟩
   |true=>
    simp only[cond_true]at h;obtain⟨_,h⟩:=jJ h;split at h
    ·simp only[lα]at h;subst h;exact⟨id,ops,true,rfl,h0⟩
    ·simp at h
 case seq a b=>
  split at h
  ·rename_i x y hx hy;simp only[lα]at h;subst h;exact⟨a,b,rfl,hx,hy⟩
  ·simp at h
 case cond o a b=>
  split at h
  ·rename_i z x y hz hx hy;simp only[lα]at h;subst h;exact⟨o,a,b,rfl,hz,hx,hy⟩
  ·simp at h
 case block id b=>
  split at h
  ·rename_i x hx;simp only[lα]at h;subst h;exact⟨b,rfl,hx⟩
  ·simp at h
 case loop b=>
  split at h
  ·rename_i x hx;simp only[lα]at h;subst h;exact⟨b,rfl,hx⟩
  ·simp at h
 case exit id=>simp only[lα]at h;subst h;rfl
 case ret=>simp only[lα]at h;subst h;rfl
 all_goals simp at h
theorem ahV (hcall:dV P G call)(hm:P.follows .mixedOrders=true){fuel:Nat}:∀(k:Co) {c:Code} {st:St} {r:Ex×St} {a:Act} {φ:List cH} {w:World} {S:Nat→Prop},Kc P G raw N c=some (er k)→cN call fuel m k st=some r→uR G N a φ w S st→m≤st.hp.length→c.wp P (Post G N m φ w S st r) a w:=by
 intro k;induction k with
 |skip=>
  intro c st r a φ w S hc hev rel hmm;have:=sI hc;simp only[er,I8]at this;subst this;simp only[cN,lα]at hev;subst hev;exact wp_skip ⟨rfl,Later.refl rel hmm⟩
 |reg nal xs ps out=>
  intro c st r a φ w S hc hev rel hmm;have:=sI hc;simp only[er,I8]at this;obtain⟨rid,ops,draw,rfl,hreg⟩:=this;simp only[cN]at hev;split at hev
  ·rename_i st1 hst1;simp only[lα]at hev;subst hev;have fin:∀a' w',Later G N m φ w S st st1 a' w'→Post G N m φ w S st (.norm,⟨fq out id st1.tm,st1.hp⟩) .normal a' w':=by
    rintro a' w' ⟨φ',S',r1,r2,r3,r4⟩
    refine⟨rfl,φ',S',⟨fun t=>?_,r1.gr,r1.hr,r1.size,r1.defers⟩,r2,r3,r4⟩
    simp only[E9];split
    ·exact r1.tmr t
    ·simp only[VR]
   unfold VY at hreg;split at hreg
   ·simp at hreg
   ·rename_i ys n hx;cases draw with
    |false=>
     simp only[cond_false,lα,Co.reg.injEq]at hreg;obtain⟨rfl,rfl,rfl,_⟩:=hreg;exact ahd hcall hx hst1 rel hmm fin
    |true=>
     simp only[cond_true]at hreg;obtain⟨hed,hreg⟩:=jJ hreg;split at hreg
     ·rename_i ps' hps;simp only[lα,Co.reg.injEq]at hreg;obtain⟨rfl,rfl,rfl,_⟩:=hreg;exact SN hcall hm hx hed hps hst1 rel hmm fin
     ·simp at hreg
  ·simp at hev
 |seq x y ihx ihy=>
  intro c st r a φ w S hc hev rel hmm;have:=sI hc;simp only[er,I8]at this;obtain⟨cx,cy,rfl,hx,hy⟩:=this;simp only[cN]at hev;refine wp_seq ?_;split at hev
  ·rename_i st1 hst1;refine wp_mono (ihx hx hst1 rel hmm) ?_;rintro e a1 w1 ⟨h1,φ1,S1,r1,r2,r3,r4⟩;cases e<;>simp only[GC,reduceCtorEq]at h1;exact wp_mono (ihy hy hev r1 r4) fun e a2 w2 h=>h.bind r2 r3
  ·rename_i hne;refine wp_mono (ihx hx hev rel hmm) ?_;rintro e a1 w1 ⟨h1,h2⟩;cases e with
   |normal=>
    exfalso;simp only[GC]at h1;obtain⟨ex,s1⟩:=r;simp only at h1;subst h1;exact hne s1 hev
   |exit i=>exact⟨h1,h2⟩
   |ret=>exact⟨h1,h2⟩
   |goto l=>exact h1.elim
   |panic ch=>exact h1.elim
   |outgrown=>exact h1.elim
 |cond z x y ihx ihy=>
  intro c st r a φ w S hc hev rel hmm;have:=sI hc;simp only[er,I8]at this;obtain⟨o,cx,cy,rfl,hz,hx,hy⟩:=this;have hv:=bg rel.tmr rel.gr hz;simp only[cN]at hev;split at hev
  ·rename_i b hb;rw[hb]at hv;simp only[VR,PR]at hv;cases b with
   |true=>exact wp_cond_true hv (ihx hx hev rel hmm)
   |false=>exact wp_cond_false hv (ihy hy hev rel hmm)
  ·simp at hev
 |block id x ihx=>
  intro c st r a φ w S hc hev rel hmm;have:=sI hc;simp only[er,I8]at this;obtain⟨cx,rfl,hx⟩:=this;simp only[cN]at hev;refine wp_block ?_;split at hev
  ·rename_i i st1 hst1;refine wp_mono (ihx hx hst1 rel hmm) ?_;rintro e a1 w1 ⟨h1,h2⟩;rw[beq_eq]at hev;cases e with
   |exit j=>
    simp only[GC,Ex.exit.injEq]at h1;subst h1;by_cases hij:i=id
    ·simp only[hij,decide_true,cond_true,lα]at hev;subst hev;simp only[Exit.inBlock,hij,if_true];exact⟨rfl,h2⟩
    ·simp only[hij,decide_false,cond_false,lα]at hev;subst hev;simp only[Exit.inBlock,if_neg hij];exact⟨rfl,h2⟩
   |normal=>simp[GC]at h1
   |ret=>simp[GC]at h1
   |goto l=>exact h1.elim
   |panic ch=>exact h1.elim
   |outgrown=>exact h1.elim
  ·rename_i hne;refine wp_mono (ihx hx hev rel hmm) ?_;rintro e a1 w1 ⟨h1,h2⟩;cases e with
   |exit j=>
    exfalso;simp only[GC]at h1;obtain⟨ex,s1⟩:=r;simp only at h1;subst h1;exact hne j s1 hev
   |normal=>exact⟨h1,h2⟩
   |ret=>exact⟨h1,h2⟩
   |goto l=>exact h1.elim
   |panic ch=>exact h1.elim
   |outgrown=>exact h1.elim
 |loop live x ihx=>
  intro c st r a φ w S hc hev rel hmm;have:=sI hc;simp only[er,I8]at this;obtain⟨cx,rfl,hx⟩:=this;simp only[cN]at hev;refine MF (fun n a1 w1=>∃st1,AE m (cN call fuel m x) live n st1=some r∧∃φ1 S1,uR G N a1 φ1 w1 S1 st1∧Fr (bC φ st.hp) S w (bC φ1 st1.hp) S1 w1∧(∀id,id<m→φ1[id]?=φ[id]?)∧m≤st1.hp.length) ?_ ?_ (n:=fuel) ⟨st,hev,φ,S,rel,Fr.refl _ _ _,fun _ _=>rfl,hmm⟩
  ·rintro a1 w1 ⟨st1,h,_⟩
   simp[AE]at h
  ·rintro n a1 w1 ⟨st1,h,φ1,S1,r1,r2,r3,r4⟩
   simp only[AE]at h;split at h
   ·simp at h
   ·rename_i st2 hst2;obtain⟨φ2,S2,q1,q2,q3,q4⟩:=TT hst2 r1 r4;split at h
    ·rename_i st3 hst3;refine wp_mono (ihx hx hst3 q1 q4) ?_;rintro e a3 w3 ⟨h1,φ3,S3,p1,p2,p3,p4⟩;cases e<;>simp only[GC,reduceCtorEq]at h1;exact⟨st3,h,φ3,S3,p1,(r2.trans q2).trans p2,fun id hid=>((p3 id hid).trans (q3 id hid)).trans (r3 id hid),p4⟩
    ·rename_i hne;refine wp_mono (ihx hx h q1 q4) ?_;rintro e a3 w3 ⟨h1,h2⟩;have hb:=h2.bind (r2.trans q2) (fun id hid=>(q3 id hid).trans (r3 id hid));cases e with
     |normal=>
      exfalso;simp only[GC]at h1;obtain⟨ex,s1⟩:=r;simp only at h1;subst h1;exact hne s1 h
     |exit i=>exact⟨h1,hb⟩
     |ret=>exact⟨h1,hb⟩
     |goto l=>exact h1.elim
     |panic ch=>exact h1.elim
     |outgrown=>exact h1.elim
 |exit id=>
  intro c st r a φ w S hc hev rel hmm;have:=sI hc;simp only[er,I8]at this;subst this;simp only[cN,lα]at hev;subst hev;exact wp_exit ⟨rfl,Later.refl rel hmm⟩
 |ret=>
  intro c st r a φ w S hc hev rel hmm;have:=sI hc;simp only[er,I8]at this;subst this;simp only[cN,lα]at hev;subst hev;exact wp_ret ⟨rfl,Later.refl rel hmm⟩
 |gh g x ihx=>
  intro c st r a φ w S hc hev rel hmm;simp only[er]at hc;simp only[cN]at hev;split at hev
  ·rename_i st1 hst1;obtain⟨φ1,S1,r1,r2,r3,r4⟩:=TT hst1 rel hmm;exact wp_mono (ihx hc hev r1 r4) fun e a2 w2 h=>h.bind r2 r3
  ·simp at hev
end
end Go.Ab
end
section
namespace Go.Ab
open Go
variable [Letters]
section
variable {P:Program} {G:ce} {raw:Nat→Bool} {N m:Nat} {call:aL} {a:Act} {φ:List cH} {w:World} {S:Nat→Prop} {st st':St} {hp:List Ob}
theorem xQ:∀(ds:List D) (n t:Nat),get (fg ds n) t=if n≤t then ds.getD (t - n) .junk else .junk
 |[],n,t=>by simp[fg,get]
 |d::r,n,t=>by
  simp only[fg,get];rw[beq_eq,xQ r (n+1) t];by_cases hn:n=t
  ·subst hn;simp
  ·simp only[hn,decide_false,cond_false];by_cases hle:n≤t
   ·rw[if_pos hle,if_pos (by omega),show t - n=(t - (n+1))+1 by omega,List.getD_cons_succ]
   ·rw[if_neg hle,if_neg (by omega)]
theorem Wn {ds:List D}{vs:List Value}(h:Pw (VR φ w S) ds vs)(k:Nat):Xl φ w S (fg ds 0) {tmps:=vs.toArray++Array.replicate k undef,defers:=[]}:=by
 intro t;rw[xQ];simp only[Nat.zero_le,if_true,Nat.sub_zero];rw[lρ];cases hd:ds[t]? with
 |none=>simp only[Option.getD_none,VR]
 |some d=>
  obtain⟨v,hv,hr⟩:=h.get hd;have hlt:t<vs.length:=by
   rcases lπ t vs.length with h|h
   ·exact h
   ·simp[lθ h]at hv
  rw[Array.getD_eq_getD_getElem?,Array.getElem?_append_left (by simpa using hlt)];simp only[List.getElem?_toArray,hv,Option.getD_some];exact hr
theorem ahy (rel:uR G N a φ w S st){r0:ResultVar}{r:Rv}{d:D}(hr:cRv P r0=some r)(h:Ot st r=some d):
  ∃v,(match r0 with| .tmp t=>(pure (a.tmps.getD t undef):Sem Value)| .cell x t=>do loadVar t (←asAddr (a.tmps.getD x undef))).run P w= .ok v w∧VR φ w S d v:=by
 cases r0 with
 |tmp t=>
  simp only[cRv,lα]at hr;subst hr;simp only[Ot,lα]at h;subst h;exact⟨_,rfl,rel.tmr t⟩
 |cell x t=>
  simp only[cRv]at hr;split at hr
  ·rename_i y hy;simp only[lα]at hr;subst hr;have ht:=eb hy;simp only[Ot]at h;split at h
   ·rename_i id off hb;split at h
    ·rename_i cs hcs;split at h
     ·rename_i ds hds;have hob:=iU hcs (by simp);have hv:=rel.tmr x;rw[hb]at hv;simp only[VR]at hv;obtain⟨b,hbb,hv⟩:=hv;obtain⟨vs,t',fz,h1,h2,h3,h4⟩:=rel.hr.obj id _ _ hbb hob;obtain⟨hl,rfl⟩:=Mz hds;obtain⟨v,e1,e2⟩:=wq ht (b:=b) (o:=off) ((h3.drop off).take y.size) (C4 h4) (by have:=h3.1;simp only[qα,qξ];omega)
       (fun j c hj=>by
        have:=pK hj;simp only[World.cell?,h1];simpa using this) h
      refine⟨v,?_,e2⟩;simp only[hv,asAddr,Sem.run_bind,Sem.run_pure,Result.andThen_ok,e1]
     ·simp at h
    ·simp at h
   ·simp at h
  ·simp at hr
theorem UC (rel:uR G N a φ w S st):∀{l:List ResultVar} {rs:List Rv} {ds:List D},VZ P l=some rs→nh st rs=some ds→
  ∃vs:List Value,(l.mapM fun(r:ResultVar)=>(match r with| .tmp t=>(pure (a.tmps.getD t undef):Sem Value)| .cell x t=>do loadVar t (←asAddr (a.tmps.getD x undef)))).run P w= .ok vs w∧Pw (VR φ w S) ds vs
 |[],rs,ds,hr,h=>by
  simp only[VZ,lα]at hr;subst hr;simp only[nh,lα]at h;subst h;exact⟨[],rfl,Pw.nil⟩
 |r::l,rs,ds,hr,h=>by
  simp only[VZ]at hr;split at hr
  ·rename_i x xs hx hxs;simp only[lα]at hr;subst hr;simp only[nh]at h;split at h
   ·rename_i d hd;split at h
    ·rename_i es hes;simp only[lα]at h;subst h;obtain⟨v,h1,h2⟩:=ahy (P:=P) rel hx hd;obtain⟨vs,h3,h4⟩:=UC rel hxs hes;refine⟨v::vs,?_,Pw.cons h2 h4⟩;rw[List.mapM_cons];simp only[Sem.run_bind,h1,h3,Result.andThen_ok,Sem.run_pure]
    ·simp at h
   ·simp at h
  ·simp at hr
theorem Qd {fn:Func}{tmps:Array Value}{us:List Value}(h:(fn.results.toList.mapM fun(r:ResultVar)=>(match r with| .tmp t=>(pure (tmps.getD t undef):Sem Value)| .cell x t=>do loadVar t (←asAddr (tmps.getD x undef)))).run P w= .ok us w):
  (results fn tmps).run P w= .ok (if hh:us.toArray.size=1 then us.toArray[0]else .tuple us.toArray) w:=by
 have e:results fn tmps=(do
   let vs ←fn.results.mapM fun(r:ResultVar)=>(match r with| .tmp t=>(pure (tmps.getD t undef):Sem Value)| .cell x t=>do loadVar t (←asAddr (tmps.getD x undef)))
   pure (if h:vs.size=1 then vs[0]else .tuple vs)):=by
  unfold results;congr 1
 rw[e,Array.mapM_eq_mapM_toList];simp only[Sem.run_bind,Sem.run_map,h,Result.andThen_ok,Sem.run_pure]
theorem ag0 {ds:List D}{vs:List Value}(h:Pw (VR φ w S) ds vs):VR φ w S (one ds) (if hh:vs.toArray.size=1 then vs.toArray[0]else .tuple vs.toArray):=by
 have hlen:=h.1;unfold one;split
 ·rename_i d;obtain⟨v,r,rfl,h1,h2⟩:=h.cons_inv;obtain rfl:=h2.nil_inv;simpa using h1
 ·rename_i hne;have:vs.toArray.size≠1:=by
   intro hs;simp at hs;match ds,hlen with
   |[],hl=>simp at hl;omega
   |[d],_=>exact hne d rfl
   |_::_::_,hl=>simp at hl;omega
  rw[dif_neg this];simp only[VR];exact⟨_,rfl,VRs_iff.2 (by simpa using h)⟩
theorem R4:∀{ds:List D} {vs:List Value} {hp:List Ob} {S:Nat→Prop},HR φ w S hp→Pw (VR φ w S) ds vs→∃S',HR φ w S' (ur hp ds).2∧Pw (VR φ w S') (ur hp ds).1 vs∧Fr (bC φ hp) S w (bC φ (ur hp ds).2) S' w∧(ur hp ds).2.length=hp.length
 |[],vs,hp,S,hr,h=>⟨S,hr,by obtain rfl:=h.nil_inv;exact Pw.nil,Fr.refl _ _ _,rfl⟩
 |d::r,vs,hp,S,hr,h=>by
  obtain⟨v,us,rfl,h1,h2⟩:=h.cons_inv;simp only[ur];split
  ·rename_i x hx;have hz:((dids d).map fun i=>(i,bc hp i))=(dids d).zip ((dids d).map (bc hp)):=(zu (bc hp) _).symm;rw[hz]at hx ⊢
   obtain⟨k1,k2⟩:=hr.freeze (dids d);have hv:=qV hr (S':=MY φ S hp (dids d)) (fun _ h=> .inl h) rV _ hx h1;obtain⟨S',q1,q2,q3,q4⟩:=R4 k1 (h2.mono fun _ _ hh=>kI (Ext.refl φ) (fun _ _=>rfl) (fun _ h=> .inl h) _ hh);refine⟨S',q1,Pw.cons ?_ q2,k2.trans q3,by rw[q4,bQ]⟩
   simp only[VR];exact bD (fun _ _=>rfl) q3.sub _ hv
  ·obtain⟨S',q1,q2,q3,q4⟩:=R4 hr h2;exact⟨S',q1,Pw.cons (kI (Ext.refl φ) (fun _ _=>rfl) q3.sub _ (Ug h1)) q2,q3,q4⟩
theorem agr (hr:HR φ w S hp){ds:List D}{vs:List Value}(h:Pw (VR φ w S) ds vs)(hm:m≤hp.length)(fz:Bool):
  ∃φ' S',VR φ' w S' (fin m fz ds hp).1 (if hh:vs.toArray.size=1 then vs.toArray[0]else .tuple vs.toArray)∧HR φ' w S' (fin m fz ds hp).2∧Fr (bC φ hp) S w (bC φ' (fin m fz ds hp).2) S' w∧∀id,id<m→φ'[id]?=φ[id]?:=by
 have key:∀(ds:List D) (hp:List Ob) (S:Nat→Prop),HR φ w S hp→Pw (VR φ w S) ds vs→m≤hp.length→∀ids,ids=cr hp bu (dids.didsL ds++(hp.take m).flatMap lR) (List.range m)→
   ∃φ',VR φ' w S (mapD (idx ids) (one ds)) (if hh:vs.toArray.size=1 then vs.toArray[0]else .tuple vs.toArray)∧HR φ' w S (cb ids hp)∧Fr (bC φ hp) S w (bC φ' (cb ids hp)) S w∧∀id,id<m→φ'[id]?=φ[id]?:=by
  rintro ds hp S hr h hm ids rfl
  have hnd:=(gt (hp:=hp) bu (dids.didsL ds++(hp.take m).flatMap lR) (List.range m) List.nodup_range).1;exact⟨_,EA (ua _ φ) _ (ag0 h),hr.shrink hnd,(Fr.refl _ _ _).less fun b hb=>TZ hr _ hb,fun id hid=>It (by rw[hr.len];exact hm) hid⟩
 unfold fin;cases fz with
 |false=>
  simp only[cond_false];obtain⟨φ',h1,h2,h3,h4⟩:=key ds hp S hr h hm _ rfl;exact⟨φ',S,h1,h2,h3,h4⟩
 |true=>
  simp only[cond_true];obtain⟨S',q1,q2,q3,q4⟩:=R4 hr h;obtain⟨φ',h1,h2,h3,h4⟩:=key _ _ S' q1 q2 (by rw[q4];exact hm) _ rfl;exact⟨φ',S',h1,h2,q3.trans h3,h4⟩
theorem aal [Mv]{m:Nat}(hmm:m≤hp.length)(hcall:dV P G call)(hmix:P.follows .mixedOrders=true){f fuel:Nat}{fn:Func}{x:Fx}(hf:P.funcs[f]?=some fn)(hx:G1 P G raw fn x){ds:List D}{r:D}{out:List Ob}(hev:tB m call fuel x ds hp=some (r,out))
  (hr:HR φ w S hp) (hg:GR G w S) {vs:List Value} (hv:Pw (VR φ w S) ds vs):Calls P f vs.toArray w (RetOk φ hp w S r out m):=by
 obtain⟨hb,hres⟩:=hx;cases hbody:fn.body with
 |none=>rw[hbody]at hb;simp at hb
 |some c=>
  rw[hbody]at hb;simp only at hb;have rel:uR G fn.ntmps {tmps:=vs.toArray++Array.replicate (fn.ntmps - vs.toArray.size) undef,defers:=[]} φ w S ⟨fg ds 0,hp⟩:=⟨Wn hv _,hg,hr,by simp;omega,rfl⟩
  have fin:∀{ex:Ex} {st1:St} {es:List D},cN call fuel m x.body ⟨fg ds 0,hp⟩=some (ex,st1)→(ex= .norm∨ex= .ret)→nh st1 x.res=some es→(r,out)=fin m x.fz es st1.hp→Calls P f vs.toArray w (RetOk φ hp w S r out m):=by
   intro ex st1 es h1 hex h2 h3;refine calls_of_wp hf hbody (wp_mono (ahV (m:=m) hcall hmix x.body hb h1 rel hmm) ?_);rintro e a1 w1 ⟨he,φ1,S1,r1,r2,r3,r4⟩;have fin2:a1.defers=[]∧∃v,(results fn a1.tmps).run P w1= .ok v w1∧RetOk φ hp w S r out m (.returned v) w1:=by
    refine⟨r1.defers,?_⟩;obtain⟨us,g1,g2⟩:=UC (P:=P) r1 hres h2;obtain⟨φ2,S2,q1,q2,q3,q4⟩:=agr r1.hr g2 r4 x.fz;rw[←h3]at q1 q2 q3;refine⟨_,?_,φ2,S2,q1,q2,r2.trans q3,fun id hid=>(q4 id hid).trans (r3 id hid)⟩
    exact Qd g1
   cases e with
   |normal=>exact fin2
   |ret=>exact fin2
   |exit i=>simp only[GC]at he;rcases hex with rfl|rfl<;>simp at he
   |goto l=>exact he.elim
   |panic ch=>exact he.elim
   |outgrown=>exact he.elim
  unfold tB at hev;split at hev
  ·rename_i st1 h1;split at hev
   ·rename_i es h2;simp only[lα]at hev;exact fin h1 (.inl rfl) h2 hev.symm
   ·simp at hev
  ·rename_i st1 h1;split at hev
   ·rename_i es h2;simp only[lα]at hev;exact fin h1 (.inr rfl) h2 hev.symm
   ·simp at hev
  ·simp at hev
theorem aeR [Mv](hcall:dV P G call)(hmix:P.follows .mixedOrders=true){f fuel:Nat}{fn:Func}{x:Fx}(hf:P.funcs[f]?=some fn)(hx:G1 P G raw fn x){ds:List D}{r:D}{out:List Ob}(hev:fh call fuel x ds hp=some (r,out))
  (hr:HR φ w S hp) (hg:GR G w S) {vs:List Value} (hv:Pw (VR φ w S) ds vs):Calls P f vs.toArray w (RetOk φ hp w S r out hp.length):=aal (Nat.le_refl _) hcall hmix hf hx hev hr hg hv
def gC (P:Program)(G:ce)(f:Nat)(g:List Da→Option (D×List Ob)):Prop:=
 ∀xs r out,g xs=some (r,out)→fB P f∧∀w S vs,(∀b,S b→b<w.heap.size)→GR G w S→Pw (PR w S) xs vs→Calls P f vs.toArray w (RetOk [] [] w S r out 0)
def Xo [Mv](P:Program)(G:ce)(f:Nat)(g:List D→List Ob→Option (D×List Ob)):Prop:=
 ∀ds hp r out,g ds hp=some (r,out)→fB P f∧∀φ w S vs,HR φ w S hp→GR G w S→Pw (VR φ w S) ds vs→Calls P f vs.toArray w (RetOk φ hp w S r out (fA f ds hp.length))
structure uS [Mv](P:Program)(G:ce)(tab:Nat→Option Fn):Prop where
 code : ∀ f x, tab f = some (.code x) → ∃ fn raw, P.funcs[f]? = some fn ∧ G1 P G raw fn x ∧ (fn.name == "runtime.NumGoroutine") = false
 prim:∀f g,tab f=some (.prim g)→gC P G f g
 both : ∀ f g x, tab f = some (.both g x) → gC P G f g ∧ ∃ fn raw, P.funcs[f]? = some fn ∧ G1 P G raw fn x ∧ (fn.name == "runtime.NumGoroutine") = false
 any:∀f g,tab f=some (.any g)→Xo P G f g
theorem Ah [Mv] (hmix : P.follows .mixedOrders = true) {call : aL} (hc : dV P G call) {f fuel : Nat} {fn : Func} {raw : Nat → Bool} {x : Fx} (h1 : P.funcs[f]? = some fn) (h2 : G1 P G raw fn x) (h3 : (fn.name == "runtime.NumGoroutine") = false) {ds : List D} {hp : List Ob} {r : D} {out : List Ob} (h : tB (fA f ds hp.length) call fuel x ds hp = some (r, out)) :
  fB P f∧∀φ w S vs,HR φ w S hp→GR G w S→Pw (VR φ w S) ds vs→Calls P f vs.toArray w (RetOk φ hp w S r out (fA f ds hp.length)):=by
 refine⟨⟨fn,h1,?_,h3⟩,fun φ w S vs hr hg hv=>aal (xZ _ _ _) hc hmix h1 h2 h hr hg hv⟩
 cases hb:fn.body with
 |none=>obtain⟨h4,_⟩:=h2;rw[hb]at h4;simp at h4
 |some c=>rfl
theorem IR {f:Nat}{g:List Da→Option (D×List Ob)}(hg:gC P G f g){ds:List D}{xs:List Da}(hxs:j0 ds=some xs){r:D}{out:List Ob}(h:g xs=some (r,out)):
  fB P f∧∀φ w S vs,HR φ w S []→GR G w S→Pw (VR φ w S) ds vs→Calls P f vs.toArray w (RetOk φ [] w S r out 0):=by
 obtain⟨h1,h2⟩:=hg xs r out h;refine⟨h1,fun φ w S vs hr hgr hv=>?_⟩
 have hφ:φ=[]:=lν (by rw[hr.len];rfl);subst hφ;exact h2 w S vs hr.low hgr (xn hxs hv)
theorem xK [Mv](hmix:P.follows .mixedOrders=true){tab:Nat→Option Fn}(ht:uS P G tab):∀n,dV P G (evFn tab n)
 |0=>by intro f ds hp r out h;simp[evFn]at h
 |n+1=>by
  intro f ds hp r out h;simp only[evFn]at h;split at h
  ·rename_i x hx;obtain⟨fn,raw,h1,h2,h3⟩:=ht.code f x hx;exact Ah hmix (xK hmix ht n) h1 h2 h3 h
  ·rename_i g hg;split at h
   ·rename_i xs hxs;split at h
    ·rw[List.length_nil,Fh];exact IR (ht.prim f g hg) hxs h
    ·simp at h
   ·simp at h
  ·rename_i g x hx;obtain⟨hg,fn,raw,h1,h2,h3⟩:=ht.both f g x hx;split at h
   ·rename_i xs hxs;split at h
    ·rw[List.length_nil,Fh];exact IR hg hxs h
    ·exact Ah hmix (xK hmix ht n) h1 h2 h3 h
   ·exact Ah hmix (xK hmix ht n) h1 h2 h3 h
  ·rename_i g hg;exact ht.any f g hg ds hp r out h
  ·simp at h
end
end Go.Ab
end
