import Derived.Test.YtgcndlhopflceaaGreatDoorAm1
import Derived.Laws.Externs
import Derived.Orders
set_option linter.all false
namespace Go.Ab
open Go
section
variable [Letters]
def Ren (σ:Nat->Option Nat)(φ φ':List cI):Prop:=∀i j,σ i=some j->∀l,φ[i]?=some l->l≠ .none->φ'[j]?=some l
mutual
def yp {σ:Nat->Option Nat}{φ φ':List cI}{w:World}{S:Nat->Prop}(hσ:Ren σ φ φ'):∀(d:D) {v:Value},VR φ w S d v->VR φ' w S (mapD σ d) v
 | .p x,v,h=>by simpa only[mapD,VR]using h
 | .agg ds,v,h=>by
  simp only[mapD,VR]at h ⊢
  obtain⟨vs,rfl,h1,h2⟩:=h;exact⟨vs,rfl,ru hσ ds h1,h2⟩
 | .tup ds,v,h=>by
  simp only[mapD,VR]at h ⊢
  obtain⟨vs,rfl,h1⟩:=h;exact⟨vs,rfl,ru hσ ds h1⟩
 | .box id off,v,h=>by
  simp only[mapD];split
  ·rename_i j hj;simp only[VR]at h ⊢
   obtain⟨b,h1,rfl⟩:=h;exact⟨b,hσ _ _ hj _ h1 (by simp),rfl⟩
  ·simp only[VR]
 | .el id i off,v,h=>by
  simp only[mapD];split
  ·rename_i j hj;simp only[VR]at h ⊢
   obtain⟨b,o,cap,z,n,h1,h2,rfl⟩:=h;exact⟨b,o,cap,z,n,hσ _ _ hj _ h1 (by simp),h2,rfl⟩
  ·simp only[VR]
 | .ip x off,v,h=>by simpa only[mapD,VR]using h
 | .arr id lo len z,v,h=>by
  simp only[mapD];split
  ·rename_i j hj;simp only[VR]at h ⊢
   obtain⟨b,o,cap,n,a,h1,h2⟩:=h;exact⟨b,o,cap,n,a,hσ _ _ hj _ h1 (by simp),h2⟩
  ·simp only[VR]
 | .sl g z es,v,h=>by simpa only[mapD,VR]using h
 | .map id,v,h=>by
  simp only[mapD];split
  ·rename_i j hj;simp only[VR]at h ⊢
   obtain⟨r,h1,rfl⟩:=h;exact⟨r,hσ _ _ hj _ h1 (by simp),rfl⟩
  ·simp only[VR]
 | .fn f caps,v,h=>by
  simp only[mapD,VR]at h ⊢
  obtain⟨fs,cs,rfl,hk,h1⟩:=h;exact⟨fs,cs,rfl,hk,ru hσ caps h1⟩
 | .iface t d,v,h=>by
  simp only[mapD,VR]at h ⊢
  obtain⟨u,rfl,h1⟩:=h;exact⟨u,rfl,yp hσ d h1⟩
 | .junk,v,h=>by simp only[mapD,VR]
def ru {σ:Nat->Option Nat}{φ φ':List cI}{w:World}{S:Nat->Prop}(hσ:Ren σ φ φ'):∀(ds:List D) {vs:List Value},AK φ w S ds vs->AK φ' w S (mapD.mapDL σ ds) vs
 |[],vs,h=>by simpa only[mapD.mapDL,AK]using h
 |d::r,vs,h=>by
  simp only[mapD.mapDL,AK]at h ⊢
  obtain⟨u,us,rfl,h1,h2⟩:=h;exact⟨u,us,rfl,yp hσ d h1,ru hσ r h2⟩
end
variable {σ:Nat->Option Nat} {φ:List cI}
def Lc {φ':List cI}{w:World}{S:Nat->Prop}(hσ:Ren σ φ φ'){ds:List D}{vs:List Value}(h:Pw (VR φ w S) ds vs):Pw (VR φ' w S) (mapD.mapDL σ ds) vs:=
 VRs_iff.1 (ru hσ ds (VRs_iff.2 h))
def Ŷ (σ:Nat->Option Nat)(cs:List D)(h:b3 (mapD.mapDL σ cs)=true):b3 cs=true:=by
 have hl:∀cs:List D,(mapD.mapDL σ cs).length=cs.length:=fun cs=>by
  induction cs with
  |nil=>rfl
  |cons d r ih=>simp only[mapD.mapDL,List.length_cons,ih]
 unfold b3 at h ⊢
 rw[hl]at h;rw[lγ]at h ⊢
 refine⟨h.1,?_⟩;cases cs with
 |nil=>exact h.2
 |cons d r=>
  have h2:=h.2;simp only[mapD.mapDL]at h2;cases d with
  |p x=>cases x<;>first|rfl|exact absurd h2 (by simp[mapD,pH])
  |box i o=>rfl
  |agg ds=>cases h2
  |tup ds=>cases h2
  |el i j o=>simp only[mapD]at h2;split at h2<;>cases h2
  |ip x o=>cases h2
  |arr i a b c=>simp only[mapD]at h2;split at h2<;>cases h2
  |sl g z es=>cases h2
  |map i=>simp only[mapD]at h2;split at h2<;>cases h2
  |fn f ds=>cases h2
  |iface t d=>cases h2
  |junk=>cases h2
def Uk {φ':List cI}{w:World}{S:Nat->Prop}(hσ:Ren σ φ φ'){l:cI}{o:Ob}(h:OR φ w S l o):OR φ' w S l (ck σ o):=by
 cases o with
 |box cs=>
  cases l with
  |box b=>
   simp only[OR]at h;simp only[ck,OR];obtain⟨vs,t,fz,h1,h2,h3,h4,h5⟩:=h;exact⟨vs,t,fz,h1,h2,Lc hσ h3,h4,fun hh=>h5 (Ŷ σ cs hh)⟩
  |_=>simp only[OR]at h
 |arr es=>cases l<;>simpa only[OR,ck]using h
 |fz es=>cases l<;>simpa only[OR,ck]using h
 |byt es=>cases l<;>simpa only[OR,ck]using h
 |may c es=>cases c<;>cases l<;>simpa only[OR,ck]using h
 |map ks vs=>cases l<;>simpa only[OR,ck]using h
 |fzm ks vs=>cases l<;>simpa only[OR,ck]using h
 |mapd ks vs=>
  cases l with
  |map r=>
   simp only[OR]at h;simp only[ck,OR];obtain⟨es,c,h1,h2,h3⟩:=h;exact⟨es,c,h1,h2,Lc hσ h3⟩
  |_=>simp only[OR]at h
 |dead=>cases l<;>simp only[OR,ck]
 |unborn=>cases l<;>simpa only[OR,ck]using h
def sJ (σ:Nat->Option Nat)(l:cI)(o:Ob):bS l (ck σ o)=bS l o:=by
 cases o<;>cases l<;>rfl
def W8 {id:Nat}:∀{ids:LN} {n j:Nat},idx.go id ids n=some j->n<=j/\ids[j - n]?=some id
 |[],n,j,h=>by simp[idx.go]at h
 |x::r,n,j,h=>by
  simp only[idx.go]at h;rw[beq_eq]at h;by_cases hx:x=id
  ·simp_all
  ·simp[hx]at h;obtain⟨h1,h2⟩:=W8 h;grind
variable {ids:LN} {id:Nat}
def Is {j:Nat}(h:idx ids id=some j):ids[j]?=some id:=by
 have:=(W8 (n:=0) h).2;omega
def y7 {id:Nat}:∀{ids:LN} {n:Nat},id∈ids->∃j,idx.go id ids n=some j
 |[],n,h=>by simp at h
 |x::r,n,h=>by
  simp only[idx.go];rw[beq_eq];by_cases hx:x=id
  ·simp[hx]
  ·simp only[hx,cond_false];exact y7 ((mδ.1 h).resolve_left fun e=>hx e.symm)
def Cz (h:ids.Nodup){i j x:Nat}(hi:ids[i]?=some x)(hj:ids[j]?=some x):i=j:=by
 have hlt:i<ids.length:=by
  grind
 exact(List.getElem?_inj hlt h).1 (hi.trans hj.symm)
def Mg (h:ids.Nodup){k:Nat}(hk:ids[k]?=some id):idx ids id=some k:=by
 obtain⟨j,hj⟩:=y7 (n:=0) (lξ hk);have hj':idx ids id=some j:=hj;rw[hj',Cz h (Is hj') hk]
def jl (ids:LN)(φ:List cI):List cI:=ids.map fun i=>φ.getD i .none
def pm (ids:LN)(φ:List cI):Ren (idx ids) φ (jl ids φ):=by
 intro i j hj l hl _;have:=Is hj;simp[jl,this,hl]
section
variable {φ:List cI} {w:World} {S:Nat->Prop} {hp:List Ob}
def xk (hr:HR φ w S hp){k:Nat}{l:cI}{o:Ob}(h1:(jl ids φ)[k]?=some l)(h2:(bZ ids hp)[k]?=some o):∃i,ids[k]?=some i/\((φ[i]?=some l/\∃o0,hp[i]?=some o0/\o=ck (idx ids) o0)\/(φ[i]?=none/\l= .none/\o= .dead)):=by
 simp only[jl,bZ,lσ,mβ]at h1 h2;obtain⟨i,hi,rfl⟩:=h1;obtain⟨i',hi',rfl⟩:=h2;rw[hi]at hi';simp at hi';subst hi';refine⟨i,hi,?_⟩;rcases mα i hp.length with hlt|hge
 ·have h3:i<φ.length:=by rw[hr.len];exact hlt
  refine .inl ⟨by simp_all,hp[i],lδ hlt,?_⟩
  rw[xq (lδ hlt)]
 ·have h3:φ.length<=i:=by rw[hr.len];exact hge
  refine .inr ⟨lπ h3,by simp_all,?_⟩
  simp[aS,lπ hge,ck]
def qN (hr:HR φ w S hp){b:Nat}(h:bC (jl ids φ) (bZ ids hp) b):uc φ hp (· ∈ids) b:=by
 obtain⟨k,l,o,h1,h2,h3⟩:=h;obtain⟨i,hi,(⟨g1,o0,g2,rfl⟩|⟨_,rfl,rfl⟩)⟩:=xk hr h1 h2
 ·rw[sJ]at h3;exact⟨i,l,o0,lξ hi,g1,g2,h3⟩
 ·simp[bS]at h3
def HR.shrink (hr:HR φ w S hp)(hnd:ids.Nodup):HR (jl ids φ) w S (bZ ids hp) where
 len:=by simp[jl,bZ]
 obj k l o h1 h2:=by
  obtain⟨i,hi,(⟨g1,o0,g2,rfl⟩|⟨_,rfl,rfl⟩)⟩:=xk hr h1 h2
  ·exact Uk (pm ids φ) (hr.obj i l o0 g1 g2)
  ·simp only[OR]
 own b hb:=by
  obtain⟨i,l,o,_,h1,h2,h3⟩:=qN hr hb;exact hr.own b ⟨i,l,o,h1,h2,h3⟩
 one k k' l l' o o' b h1 h2 h1' h2' h3 h3':=by
  obtain⟨i,hi,(⟨g1,o0,g2,rfl⟩|⟨_,rfl,rfl⟩)⟩:=xk hr h1 h2
  ·obtain⟨i',hi',(⟨g1',o0',g2',rfl⟩|⟨_,rfl,rfl⟩)⟩:=xk hr h1' h2'
   ·rw[sJ]at h3 h3';have:=hr.one i i' l l' o0 o0' b g1 g2 g1' g2' h3 h3';subst this;exact Cz hnd hi hi'
   ·simp[bS]at h3'
  ·simp[bS]at h3
 low:=hr.low
def Pg (hr:HR φ w S hp)(ids:LN){b:Nat}(h:bC (jl ids φ) (bZ ids hp) b):bC φ hp b:=by
 obtain⟨i,l,o,_,h1,h2,h3⟩:=qN hr h;exact⟨i,l,o,h1,h2,h3⟩
end
def eV {hp:List Ob}:∀(n:Nat) (ws acc:LN),acc.Nodup->(cz hp n ws acc).Nodup/\acc <+: cz hp n ws acc
 |0,ws,acc,h=>by simp only[cz];simp_all
 |n+1,[],acc,h=>by simp only[cz];simp_all
 |n+1,id::ws,acc,h=>by
  simp only[cz];split
  ·exact eV n ws acc h
  ·have hni:id∉acc:=by simp_all
   obtain⟨h1,h2⟩:=eV (hp:=hp) n (iS (hp.getD id .dead)++ws) (acc++[id]) (by
    grind)
   exact⟨h1,(List.prefix_append _ _).trans h2⟩
variable {ws:LN}
def HU {hp:List Ob}{n m:Nat}{k:Nat}(hk:k<m):(cz hp n ws (List.range m))[k]?=some k:=by
 obtain⟨r,hr⟩:=(eV (hp:=hp) n ws (List.range m) List.nodup_range).2;grind
def Cm {hp:List Ob}{n m:Nat}(hm:m<=φ.length)(hid:id<m):(jl (cz hp n ws (List.range m)) φ)[id]?=φ[id]?:=by
 simp only[jl,lσ,HU hid,Option.map_some];grind
def y4 {out:LN}{f:D->D}{tm:Tm}{t:Nat}:get (fB out f tm) t=if t∈out then f (get tm t)else .junk:=by
 induction out with
 |nil=>rfl
 |cons s r ih=>
  simp only[fB,get];rw[beq_eq];grind
end
section
variable [Letters]
def RetOk (φ:List cI)(hp:List Ob)(w:World)(S:Nat->Prop)(r:D)(out:List Ob)(m:Nat):Ending->World->Prop
 | .returned v,w'=>∃φ' S',VR φ' w' S' r v/\HR φ' w' S' out/\Fr (bC φ hp) S w (bC φ' out) S' w'/\∀id,id<m->φ'[id]?=φ[id]?
 |_,_=>False
def eK (P : Program) (f : Nat) : Prop := ∃ fn, P.funcs[f]? = some fn ∧ fn.body.isNone = false ∧ (fn.name == "runtime.NumGoroutine") = false
def ez [Mv](P:Program)(G:bY)(call:aG):Prop:=
 ∀f ds hp r out,call f ds hp=some (r,out)->eK P f/\∀φ w S vs,HR φ w S hp->GR G w S->Pw (VR φ w S) ds vs->Calls P f vs.toArray w (RetOk φ hp w S r out (eo f ds hp.length))
theorem ss [Mv](f:Nat)(ds:List D)(n:Nat):eo f ds n<=n:=by
 unfold eo;grind
def ze [Mv](f:Nat)(ds:List D):eo f ds 0=0:=Nat.le_zero.1 (ss f ds 0)
variable {f:Nat}
def Mi [Mv](h:Mv.mv f=false)(ds:List D)(n:Nat):eo f ds n=n:=by
 unfold eo;grind
variable {m:Nat}
def RetOk.le {φ:List cI}{hp:List Ob}{w:World}{S:Nat->Prop}{r:D}{out:List Ob}{m':Nat}(hm:m'<=m){e:Ending}{w':World}(h:RetOk φ hp w S r out m e w'):RetOk φ hp w S r out m' e w':=by
 cases e with
 |returned v=>
  obtain⟨φ',S',h1,h2,h3,h4⟩:=h;exact⟨φ',S',h1,h2,h3,fun id hid=>h4 id (by omega)⟩
 |panicked c=>exact h
 |outgrown=>exact h
section
variable {P:Program} {G:bY} {φ:List cI} {w:World} {S:Nat->Prop} {hp:List Ob} {d:D} {ups:List (Nat×Ob)} {new:List Ob}
def Nk (ids:LN)(hp:List Ob):(ids.map (aS hp)).map (ck (idx ids))=bZ ids hp:=by
 simp[bZ,List.map_map]
def Te (m:Nat)(ids:LN)(os:List Ob):List (Nat×Ob):=(ids.take m).zip os++(ids.drop m).map fun i=>(i,.dead)
def Y_ (m:Nat)(ids:LN)(os:List Ob)(i:Nat):Ob:=bif Nat.blt ((idx ids i).getD 0) m then os.getD ((idx ids i).getD 0) .dead else .dead
variable {ids:LN}
def PW (hnd:ids.Nodup){os:List Ob}(hm:m<=ids.length)(hle:m<=os.length):Te m ids os=ids.map fun i=>(i,Y_ m ids os i):=by
 unfold Te;have hz:∀k:Nat,((ids.take m).zip os)[k]?=((ids.take m)[k]?).bind fun i=>(os[k]?).map fun o=>(i,o):=by
  grind
 have hzl:((ids.take m).zip os).length=m:=by simp_all
 apply List.ext_getElem?;intro k;rw[lσ];by_cases hk:k<m
 ·have hki:k<ids.length:=by omega
  have hko:k<os.length:=by omega
  rw[lι (by omega),hz,List.getElem?_take,if_pos hk,lδ hki];have hat:ids[k]?=some ids[k]:=lδ hki;have hbl:Nat.blt k m=true:=by simp_all
  simp only[Option.bind_some,lδ hko,Option.map_some,Y_,Mg hnd hat,Option.getD_some,hbl,cond_true,mν]
 ·rw[lυ (by omega),hzl,lσ,List.getElem?_drop,show m+(k - m)=k by omega];cases hki:ids[k]? with
  |none=>rfl
  |some i=>
   have hbl:Nat.blt k m=false:=by rw[blt_eq];simp_all
   simp only[Option.map_some,Y_,Mg hnd hki,Option.getD_some,hbl,cond_false]
def Z0 (hnd:ids.Nodup){out:List Ob}(hm:m<=ids.length)(hle:m<=out.length){φ':List cI}(hl:φ'.length=out.length)(hlen:φ.length=hp.length)(hlow:∀k,k<m->φ'[k]?=(jl ids φ)[k]?){σ:Nat->Option Nat}{id:Nat}{l:cI}{o:Ob}(hc:id∈ids\/hp.length<=id)(h1:(φ++φ'.drop m)[id]?=some l)(h2:(grow (ao hp (Te m ids (out.map (ck σ)))) ((out.map (ck σ)).drop m))[id]?=some o):
  o= .dead\/∃k o0,φ'[k]?=some l/\out[k]?=some o0/\o=ck σ o0/\((id<hp.length/\k<m/\ids[k]?=some id)\/(hp.length<=id/\k=m+(id - hp.length))):=by
 have hgrow:∀(a b:List Ob),grow a b=a++b:=by intro a b;cases b<;>simp[grow]
 rw[hgrow]at h2;by_cases hlt:id<hp.length
 ·have hmem:=hc.resolve_right (by omega);obtain⟨k,hk⟩:=List.getElem?_of_mem hmem;have hkl:k<ids.length:=by
   rcases mα k ids.length with h|h
   ·exact h
   ·simp[lπ h]at hk
  rw[lι (by rw[bP];exact hlt),PW hnd hm (by simpa using hle),fF (g:=Y_ m ids (out.map (ck σ))),if_pos ⟨hmem,hlt⟩]at h2;rw[lι (by omega)]at h1;simp only[Y_,Mg hnd hk,Option.getD_some]at h2;by_cases hkm:k<m
  ·have hko:k<out.length:=by omega
   have hbl:Nat.blt k m=true:=by rw[blt_eq];simpa using hkm
   rw[hbl]at h2;refine .inr ⟨k,out[k],?_,lδ hko,?_,.inl ⟨hlt,hkm,hk⟩⟩
   ·rw[hlow k hkm];simp[jl,hk,h1]
   ·simp[hko]at h2;exact h2.symm
  ·have hbl:Nat.blt k m=false:=by rw[blt_eq];simpa using hkm
   rw[hbl]at h2;simp only[cond_false,lα]at h2;exact .inl h2.symm
 ·have hge:hp.length<=id:=Nat.le_of_not_lt hlt;rw[lυ (by rw[bP];exact hge),bP,List.getElem?_drop,lσ,mβ]at h2;rw[lυ (by omega),List.getElem?_drop,hlen]at h1;obtain⟨o0,ho,rfl⟩:=h2;exact .inr ⟨m+(id - hp.length),o0,h1,ho,rfl,.inr ⟨hge,rfl⟩⟩
variable {vs:List Value}
def yL {call:aG}(hr:HR φ w S hp)(hg:GR G w S){ds:List D}(hv:Pw (VR φ w S) ds vs)(hnd:ids.Nodup)(hm:m<=ids.length)(hcall:∀r out,call f (mapD.mapDL (idx ids) ds) (bZ ids hp)=some (r,out)->eK P f/\∀φ w S vs,HR φ w S (bZ ids hp)->GR G w S->Pw (VR φ w S) (mapD.mapDL (idx ids) ds) vs->Calls P f vs.toArray w (RetOk φ (bZ ids hp) w S r out m))(h:jz call f ds m ids (ids.map (aS hp)) hp.length=some (d,ups,new)):
  eK P f/\Calls P f vs.toArray w (RetOk φ hp w S d (grow (ao hp ups) new) hp.length):=by
 unfold jz at h;rw[Nk]at h;split at h
 ·simp at h
 ·rename_i r out hcl;rw[ble_eq]at h;by_cases hle:m<=out.length
  ·simp only[hle,lζ]at h;obtain⟨rfl,rfl,rfl⟩:=h;refine⟨(hcall r out hcl).1,((hcall r out hcl).2 (jl ids φ) w S vs (hr.shrink hnd) hg (Lc (pm ids φ) hv)).mono fun e w' he=>?_⟩
   cases e with
   |panicked c=>exact he
   |outgrown=>exact he
   |returned v=>
    obtain⟨φ',S',h1,h2,h3,h4⟩:=he;have hlen:=hr.len;have hl:=h2.len;have hgrow:∀(a b:List Ob),grow a b=a++b:=by intro a b;cases b<;>simp[grow]
    have hlo:∀id,id<hp.length->(φ++φ'.drop m)[id]?=φ[id]?:=fun id hid=>lι (by omega)
    have hups:((ids.take m).zip (out.map (ck (back m hp.length ids out.length)))++(ids.drop m).map fun i=>(i,.dead))=Te m ids (out.map (ck (back m hp.length ids out.length))):=rfl
    have hren:Ren (back m hp.length ids out.length) φ' (φ++φ'.drop m):=by
     intro k j hj l hl1 hn;unfold back at hj;rw[blt_eq,blt_eq]at hj;by_cases hk:k<m
     ·rw[h4 k hk]at hl1;simp only[jl,lα]at hl1;grind
     all_goals grind
    have hext:Ext φ (φ++φ'.drop m):=by
     intro id l hl1 _;grind
    have hoc:∀b,bC (jl ids φ) (bZ ids hp) b->uc φ hp (fun id=>id∈ids\/hp.length<=id) b:=by
     intro b hb;obtain⟨i,l,o,hc,g1,g2,g3⟩:=qN hr hb;exact⟨i,l,o,.inl hc,g1,g2,g3⟩
    have hat:=fun {id l o} (hc:id∈ids\/hp.length<=id) (q1:(φ++φ'.drop m)[id]?=some l) (q2:(grow (ao hp (Te m ids (out.map (ck (back m hp.length ids out.length))))) ((out.map (ck (back m hp.length ids out.length))).drop m))[id]?=some o)=>
     Z0 hnd hm hle hl hlen h4 hc q1 q2
    have hdead:∀{l:cI} {b:Nat},bS l .dead=some b->False:=fun {l b} h=>by cases l<;>simp[bS]at h
    obtain⟨k1,k2⟩:=hr.gen (φ':=φ++φ'.drop m) (hp':=grow (ao hp (Te m ids (out.map (ck (back m hp.length ids out.length))))) ((out.map (ck (back m hp.length ids out.length))).drop m)) (S':=S') (w':=w') (fun id=>id∈ids\/hp.length<=id)
     (by rw[hgrow];simp[bP];omega)
     (fun id hc=>by
      simp at hc;refine⟨hlo id hc.2,?_⟩;rw[hgrow,lι (by rw[bP];omega),PW hnd hm (by simp_all),fF (g:=Y_ m ids (out.map (ck (back m hp.length ids out.length)))),if_neg (fun hh=>hc.1 hh.1)])
     hext
     (fun b hb hc=>h3.keep b hb fun ho=>hc (hoc b ho)) h3.size h3.os h3.tape h3.output h3.sub
     (fun b hb=>(h3.news b hb).imp_right (·.imp_left (hoc b))) h2.low
     (fun id l o hc q1 q2=>by
      rcases hat hc q1 q2 with rfl|⟨k,o0,g1,g2,rfl,_⟩
      ·simp only[OR]
      ·exact Uk hren (h2.obj k l o0 g1 g2))
     (fun id l o b hc q1 q2 q3=>by
      rcases hat hc q1 q2 with rfl|⟨k,o0,g1,g2,rfl,_⟩
      ·simp_all
      rw[sJ]at q3;have hOw:bC φ' out b:=⟨k,l,o0,g1,g2,q3⟩;exact⟨(h3.newo b hOw).imp_left (hoc b),(h2.own b hOw).2,(h2.own b hOw).1⟩)
     (fun id id' l l' o o' b hc hc' q1 q2 q1' q2' q3 q3'=>by
      rcases hat hc q1 q2 with rfl|⟨k,o0,g1,g2,rfl,gk⟩
      ·simp_all
      rcases hat hc' q1' q2' with rfl|⟨k',o0',g1',g2',rfl,gk'⟩
      ·simp_all
      rw[sJ]at q3 q3';have:=h2.one k k' l l' o0 o0' b g1 g2 g1' g2' q3 q3';grind)
    exact⟨_,S',yp hren r h1,k1,k2,hlo⟩
  ·simp_all
def B6 (call:aG)(f:Nat)(ds:List D)(ids:LN)(obs:List Ob)(len:Nat):eY call f ds ids obs len=jz call f ds ids.length ids obs len:=by
 unfold eY jz;simp
def VX [Mv]{call:aG}(hcall:ez P G call)(hr:HR φ w S hp)(hg:GR G w S){ds:List D}(hv:Pw (VR φ w S) ds vs)(hnd:ids.Nodup)(h:nZ call f ds ids (ids.map (aS hp)) hp.length=some (d,ups,new)):
  eK P f/\Calls P f vs.toArray w (RetOk φ hp w S d (grow (ao hp ups) new) hp.length):=by
 have hsl:(bZ ids hp).length=ids.length:=by simp[bZ]
 unfold nZ at h;cases hmv:Mv.mv f
 ·rw[hmv]at h;rw[B6]at h;refine yL hr hg hv hnd (Nat.le_refl _) (fun r out hc=>?_) h;have:=hcall f _ _ r out hc;rw[Mi hmv,hsl]at this;omega
 ·rw[hmv]at h;refine yL hr hg hv hnd (ss _ _ _) (fun r out hc=>?_) h;have:=hcall f _ _ r out hc;simp_all
end
end
section
variable [Letters]
structure oR (G:bY)(N:Nat)(a:Act)(φ:List cI)(w:World)(S:Nat->Prop)(st:St):Prop where
 tmr:Tq φ w S st.tm a
 gr:GR G w S
 hr:HR φ w S st.hp
 size:N<=a.tmps.size
 defers:a.defers=[]
variable {φ:List cI} {w:World}
def oR.cx {G:bY}{N:Nat}{a:Act}{S:Nat->Prop}{st:St}(h:oR G N a φ w S st):Cx G a φ w S st.hp st.tm:=⟨h.tmr,h.gr,h.hr⟩
def Ja {S:Nat->Prop}{d:D}{v:Value}(h:VR φ w S d v):VR φ w S (I8 d) v:=by
 cases d<;>simp only[I8]<;>first
  |exact h
  |(
    obtain⟨a,cap,us,rfl,h1,_,h3,h4⟩:=h;simp only[VR,PR];grind)
variable {ds:List D} {vs:List Value}
def I9 {S:Nat->Prop}(h:Pw (VR φ w S) ds vs):Pw (VR φ w S) (ds.map I8) vs:=
 Pw.map_left (h.mono fun _ _ hh=>Ja hh)
def Pz {S:Nat->Prop}{d:D}{v:Value}(h:VR φ w S d v):VR φ w S (norm d) v:=by
 cases d with
 |sl g z es=>exact Ja h
 |agg ds=>
  obtain⟨vs,rfl,h1,h2⟩:=h;have:=oA (I9 (VRs_iff.1 h1)) h2;rwa [Array.toArray_toList]at this
 |tup ds=>
  obtain⟨vs,rfl,h1⟩:=h;exact⟨vs,rfl,VRs_iff.2 (I9 (VRs_iff.1 h1))⟩
 |_=>exact h
def EK {S:Nat->Prop}(h:Pw (VR φ w S) ds vs):Pw (VR φ w S) (ds.map norm) vs:=
 Pw.map_left (h.mono fun _ _ hh=>Pz hh)
section
variable {P:Program} {G:bY} {N:Nat} {o:Oper} {a:Act} {φ:List cI} {w:World} {S:Nat->Prop} {hp:List Ob} {tm:Tm} {st st':St} {base:Nat}
variable {x:Operand} {f:Nat} {fs:Array Value}
def yR {c:Call}{cs:Array Value}(ho:o.op= .call c)(hc:c.callee= .value x)(hx:a.eval x= .func (.func f) fs cs):
  (execOp a.eval o).run P w=(callFunc f (fs++c.args.map a.eval++cs)).run P w:=by
 simp[execOp,ho,resolve,hc,hx,Deferred.ofValue,invoke]
def qC {c:Call}{cs:Array Value}(ho:o.op= .call c)(hc:c.callee= .value x)(hx:a.eval x= .func (.func f) fs cs)(hf:eK P f):
  (execOp a.eval o).run P w= .ok (.enter f (fs++c.args.map a.eval++cs)) w:=by
 rw[yR ho hc hx];obtain⟨fn,h1,h2,h3⟩:=hf;have h4 : fn.name ≠ "runtime.NumGoroutine" := by simp_all
 have h5:fn.body≠none:=by grind
 simp[callFunc,h1,h5,h4]
def Cc {S:Nat->Prop}{caps args:List D}{fs cs:List Value}(hk:fs.length=ļ f)(hc:Pw (VR φ w S) caps (fs++cs))(ha:Pw (VR φ w S) args vs):Pw (VR φ w S) (jY f caps args) (fs++vs++cs):=by
 unfold jY;have h1:=hc.take (ļ f);have h2:=hc.drop (ļ f);rw[<-hk,List.take_left' rfl]at h1;rw[<-hk,List.drop_left' rfl]at h2;rw[mπ,<-hk];exact h1.append (ha.append h2)
variable {q:O}
def VM {op:BinOp}{t:TypeId}{y:Operand}(h:VL P op t x y=some q):dF q=false:=by
 unfold VL at h;simp only[cond_eq_ite]at h;repeat' split at h
 all_goals first
  |grind
  |(simp at h;subst h;rfl)
def Ru {s t:TypeId}(h:rB P s t=some q):dF q=false:=by
 unfold rB at h;simp only[cond_eq_ite]at h;repeat' split at h
 all_goals first
  |grind
  |(simp at h;subst h;rfl)
variable {raw:Nat->Bool} {as:List A}
def Rw (hq:VN P G raw o=some (q,as))(hic:dF q=true):∃c,o.op= .call c/\nX P G raw c=some (q,as):=by
 unfold VN at hq;all_goals simp_all
 all_goals try simp only[cond_eq_ite]at hq
 all_goals (repeat' split at hq)
 all_goals first
  |grind
  |(obtain⟨_,_,he⟩:=c4 hq;cases he;simp[dF]at hic;done)
  |(obtain⟨_,_,_,_,he⟩:=iG hq;cases he;simp[dF]at hic;done)
  |(obtain⟨rfl,rfl⟩:=bD hq;simp[dF]at hic;done)
  |(obtain⟨_,_,_,_,he⟩:=iG hq;cases he;rename_i hcb;rw[VM hcb]at hic;simp_all)
  |(obtain⟨_,_,he⟩:=c4 hq;cases he;rename_i hcb;rw[Ru hcb]at hic;simp_all)
  |skip
def VO (hq:Ž P G raw o=some (q,as))(hic:dF q=true):∃c,o.op= .call c/\nX P G raw c=some (q,as):=by
 unfold Ž at hq;split at hq
 ·rename_i r hr;simp at hq;subst hq;exact Rw hr hic
 ·obtain⟨rfl,rfl⟩:=hq;cases hic
def HN {c:Call}(hq:nX P G raw c=some (q,as))(hic:dF q=true):∃x,c.callee= .value x:=by
 unfold nX at hq;simp only[cond_eq_ite]at hq;repeat' split at hq
 all_goals first
  |grind
  |rfl
  |(obtain⟨rfl,rfl⟩:=bD hq;simp[dF]at hic;done)
  |skip
def SU {r:Nat}{es:Array MapEntry}{clock t:Nat}(hb:w.heap[r]?=some (.map es clock)):
  (Extern.MapsClone.clone #[.iface t (.map (some r))]).run P w= .ok (.iface t (.map (some w.heap.size))) (w.alloc (.map es clock)):=by
 have e:Extern.MapsClone.clone #[.iface t (.map (some r))]=(getObj r >>= fun o=>match o with
   | .map entries clock=>(newObj (.map entries clock) >>= fun n=>pure (.iface t (.map (some n))))
   | _ => stuck "maps.clone: a map expected") := rfl
 rw[e];simp only[Sem.run_bind,cW hb,Result.andThen_ok];rfl
def L5 {fn : Func} (h : fn.name = "maps.clone") : Extern.find fn = some Extern.MapsClone.clone := by
 unfold Extern.find;simp only[h];rfl
def oR.after (h:oR G N a φ w S st){φ':List cI}{w':World}{S':Nat->Prop}{d:Option Nat}{x:D}{v:Value}{hp':List Ob}(hd:B7 d a)(hv:VR φ' w' S' x v)(hr:HR φ' w' S' hp')(he:Ext φ φ')(hf:Fr (bC φ st.hp) S w (bC φ' hp') S' w'):
  oR G N (a.put d v) φ' w' S' ⟨put d x st.tm,hp'⟩ where
 tmr:=N9 hd (jR he (hf.stable h.hr) hf.sub h.tmr) hv
 gr:=wZ (hf.stable h.hr) hf.sub h.gr
 hr:=hr
 size:=by have:=h.size;cases d<;>simpa[Act.put]using this
 defers:=by rw[<-h.defers];cases d<;>simp[Act.put]
def Jc {id:Nat}(h:cZ (aS hp id)=true):hp[id]?=some .unborn:=by
 cases hc:aS hp id<;>rw[hc]at h<;>simp[cZ]at h;exact dA hc (by simp)
variable {ids:LN}
def yr [Mv]{call:aG}{kk len:Nat}{vs:List D}{obs:List Ob}(h:dF q=false):ui call base q kk vs ids obs len=pC call base q kk vs ids obs len:=by
 cases q<;>first|rfl|(simp[dF]at h)
def lZ [Mv]{vs:List D}{hp:List Ob}(h:dF q=false):dB q vs hp=bL q vs hp:=by
 cases q<;>first|rfl|(simp[dF]at h)
def od:∀(ws acc:LN),acc.Nodup->(jV ws acc).Nodup
 |[],acc,h=>h
 |i::r,acc,h=>by
  simp only[jV];cases hc:acc.contains i
  ·refine od r _ ?_;grind
  ·exact od r acc h
def sj [Mv](f:Nat)(ws:LN)(hp:List Ob):(qK f ws hp).Nodup:=by
 unfold qK;cases Mv.mv f
 ·exact(eV _ ws [] (by simp)).1
 ·exact(eV _ _ _ (od _ _ (by simp))).1
def vB [Mv](vs:List D)(hp:List Ob):(pZ vs hp).Nodup:=by
 have hc:(bL .callv vs hp).Nodup:=(eV _ (dids.didsL vs) [] (by simp)).1;unfold pZ;split
 ·cases Mv.mv _
  ·exact hc
  ·exact sj _ _ _
 ·exact hc
def VW [Mv]{call:aG}{len:Nat}{obs:List Ob}{e:fj}(h:(bif Mv.mv f then none else eY call f ds ids obs len)=some e):nZ call f ds ids obs len=some e:=by
 unfold nZ;grind
def Ŋ [Mv]{call:aG}(hcall:ez P G call)(rel:oR G N a φ w S st){x:eH}(hq:Ž P G raw o=some (x.op,x.as))(hdst:x.dst=o.dst)(hN:∀t,o.dst=some t->t<N)(hb:base<=st.hp.length){ft:ek}(hev:pG call base x st=some (st',ft)){K:Act->World->Prop}{Q:Exit->Act->World->Prop}(hK:∀a' w' φ' S',oR G N a' φ' w' S' st'->Fr (bC φ st.hp) S w (bC φ' st'.hp) S' w'->(∀id,id<base->φ'[id]?=φ[id]?)->K a' w'):o.wp P a w K Q:=by
 have hd:B7 o.dst a:=fun t ht=>mω (hN t ht) rel.size
 unfold pG at hev;simp only at hev;cases hmk:(!(dK x.op)||cZ (aS st.hp (base+x.k)))with
 |false=>rw[hmk]at hev;simp at hev
 |true=>
  rw[hmk]at hev;simp only[cond_true]at hev;have hmk':dK x.op=true->st.hp[base+x.k]?=some .unborn:=fun h=>by
   rw[h]at hmk;exact Jc (by simpa using hmk)
  split at hev
  ·simp at hev
  ·rename_i d ups new hact;simp only[lα,lζ]at hev;obtain⟨rfl,rfl⟩:=hev;have mw:EffOk P o a φ w S st.hp base d (grow (ao st.hp ups) new)->o.wp P a w K Q:=by
    rintro⟨v,w',φ',S',h1,h2,h3,h4,h5,h6⟩
    refine h1.wp (hK _ _ φ' S' ?_ h5 h6);rw[hdst];exact rel.after hd h2 h3 h4 h5
   have finc:∀f args,(execOp a.eval o).run P w= .ok (.enter f args) w->Calls P f args w (RetOk φ st.hp w S d (grow (ao st.hp ups) new) st.hp.length)->o.wp P a w K Q:=by
    intro f args hrun hc;unfold Oper.wp;rw[hrun,Oper.upon_enter];refine hc.mono fun e w' he=>?_
    cases e with
    |panicked c=>exact he.elim
    |outgrown=>exact he.elim
    |returned v=>
     obtain⟨φ',S',h2,h3,h5,h6⟩:=he;refine hK _ _ φ' S' ?_ h5 (fun id hid=>h6 id (by omega));have he:Ext φ φ':=fun id l hl _=>by
      have:id<φ.length:=by
       rcases mα id φ.length with h|h
       ·exact h
       ·simp[lπ h]at hl
      rw[h6 id (by rw[<-rel.hr.len];exact this)];exact hl
     rw[hdst];exact rel.after hd h2 h3 he h5
   cases hic:dF x.op with
   |false=>
    rw[yr hic,lZ hic]at hact;exact mw (ϟ rel.cx hq hic hmk' hact)
   |true=>
    obtain⟨c,ho,hcq⟩:=VO hq hic;obtain⟨xo,hc⟩:=HN hcq hic;have hrelc:=rel.cx;unfold nX at hcq;rw[hc]at hcq;simp only at hcq;have hgo:∀{as':List A} {ds:List D} {f:Nat} {ids:LN} {vs:Array Value},ids.Nodup->Pw (VR φ w S) ds vs.toList->nZ call f ds ids (ids.map (aS st.hp)) st.hp.length=some (d,ups,new)->(eK P f->(execOp a.eval o).run P w= .ok (.enter f vs) w)->o.wp P a w K Q:=by
     intro as' ds f ids vs hnd hp1 hdc hrun;obtain⟨h1,h2⟩:=VX hcall rel.hr rel.gr hp1 hnd hdc;rw[Array.toArray_toList]at h2;exact finc f vs (hrun h1) h2
    have hnd:∀ws,(cz st.hp br ws []).Nodup:=fun ws=>(eV _ ws [] (by simp)).1
    split at hcq
    ·rename_i f heq;simp only[Callee.value.injEq]at heq;subst heq;split at hcq
     ·rename_i fn as' hfn has;have hargs:=cM (a:=a) rel.tmr rel.gr has;have hargs':(#[]++c.args.map a.eval++ #[]).toList=c.args.toList.map a.eval:=by simp
      split at hcq
      ·obtain⟨hx1,hx2⟩:=bD hcq;rw[<-hx1,<-hx2]at hact;simp only[ui,dB]at hact;refine hgo (as':=as') (vs:= #[]++c.args.map a.eval++ #[]) (sj _ _ _) ?_ hact (fun hf=>qC ho hc rfl hf);rw[hargs'];cases raw f with
       |true=>exact hargs
       |false=>exact EK hargs
      ·rename_i hbody;cases hcl : (fn.name == "maps.clone" && (Extern.findNext fn).isNone) with
       |false=>
        rw[hcl,cond_false]at hcq;cases hne : (fn.name == "internal/abi.NoEscape" && (Extern.findNext fn).isNone) with
        |false=>rw[hne]at hcq;simp at hcq
        |true=>
         rw[hne,cond_true]at hcq;obtain⟨hx1,hx2⟩:=bD hcq;rw[<-hx1]at hic;cases hic
       |true=>
        rw[hcl]at hcq;simp only[cond_true]at hcq;obtain⟨hx1,hx2⟩:=bD hcq;rw[lγ,beq_iff_eq]at hcl;have hmk2:=hmk' (by rw[<-hx1];rfl);rw[<-hx1,<-hx2]at hact;simp only[ui,dB,pC,bL]at hact;have hex:∀{v:Value} {r:Nat} {es:Array MapEntry} {clock t:Nat},c.args.map a.eval= #[.iface t (.map (some r))]->w.heap[r]?=some (.map es clock)->
          (execOp a.eval o).run P w= .ok (.value (.iface t (.map (some w.heap.size)))) (w.alloc (.map es clock)):=by
         intro v r es clock t e1 e2;rw[yR ho hc rfl,run_callFunc_extern hfn (by rw[hcl.1];rfl) (by rw[hbody];rfl) (by simpa using hcl.2) (L5 hcl.1)];rw[show #[]++c.args.map a.eval++ #[]= #[.iface t (.map (some r))] by rw[e1];rfl,SU e2];rfl
        have hfin:∀{t r:Nat} {ks ws:LD} {es:Array MapEntry} {clock:Nat},c.args.map a.eval= #[.iface t (.map (some r))]->w.heap[r]?=some (.map es clock)->Pw (PR w S) ks (es.toList.map (·.key))->Pw (PR w S) ws (es.toList.map (·.val))->
          EffOk P o a φ w S st.hp base (.iface t (.map (base+x.k))) (grow (ao st.hp [(base+x.k,.map ks ws)]) []):=by
         intro t r ks ws es clock e1 e2 p1 p2;have hst:eA S w (w.alloc (.map es clock)):=fun b hb=>jH w _ (rel.hr.low b hb)
         obtain⟨g1,g2,g3⟩:=rel.hr.born hmk2 (.map es clock) (l:= .map w.heap.size) (ob:= .map ks ws) (fun b hb=>by simp[bS]at hb;exact hb.symm) (by
          simp only[OR];exact⟨es,clock,eU w _,p1.mono fun _ _ hh=>bz hst (fun _ h=>h) _ hh,p2.mono fun _ _ hh=>bz hst (fun _ h=>h) _ hh⟩)
         refine⟨.iface t (.map (some w.heap.size)),_,_,S,.inl (hex (v:=undef) e1 e2),?_,by simpa[grow,ao,bj]using g1,g3,by simpa[grow,ao,bj]using g2,gM⟩
         simp only[VR];exact⟨_,rfl,_,gR rel.hr hmk2,rfl⟩
        refine mw ?_;unfold Ve at hact;split at hact
        ·rename_i t id heq;obtain⟨v,e1,e2⟩:=uj rel.cx has heq;simp only[VR]at e2;obtain⟨u,rfl,r,hr1,rfl⟩:=e2;split at hact
         ·rename_i ks ws hl;simp only[lα,lζ]at hact;obtain⟨rfl,rfl,rfl⟩:=hact;obtain⟨es,clock,g1,g2,g3⟩:=rel.hr.obj id _ _ hr1 (bI hl (by simp));exact hfin e1 g1 g2 g3
         ·rename_i ks ws hl;simp only[lα,lζ]at hact;obtain⟨rfl,rfl,rfl⟩:=hact;obtain⟨_,es,clock,g1,g2,g3⟩:=rel.hr.obj id _ _ hr1 (bI hl (by simp));exact hfin e1 g1 g2 g3
         ·simp at hact
        ·rename_i t ks ws heq;obtain⟨v,e1,e2⟩:=uj rel.cx has heq;simp only[VR,PR]at e2;obtain⟨u,rfl,r,es,clock,rfl,hS,g1,g2,g3⟩:=e2;simp only[lα,lζ]at hact;obtain⟨rfl,rfl,rfl⟩:=hact;exact hfin e1 g1 (PRs_iff.1 g2) (PRs_iff.1 g3)
        ·simp at hact
     ·simp at hcq
    ·rename_i g hng heq;simp only[Callee.value.injEq]at heq;subst heq;split at hcq
     ·rename_i g' as' hg' has;obtain⟨hx1,hx2⟩:=bD hcq;have hargs:=cM (a:=a) rel.tmr rel.gr has;have hfv:=bc (a:=a) rel.tmr rel.gr hg';rw[<-hx1,<-hx2]at hact;simp only[ui,dB,List.map_cons]at hact;generalize ev st.tm g'=dg at*
      unfold yD at hact;split at hact
      ·rename_i f caps args heq;simp only[lτ]at heq;obtain⟨rfl,rfl⟩:=heq;simp only[VR,PR]at hfv;obtain⟨fs,cs,hfe,hk,hcs⟩:=hfv;refine hgo (as':=as') (vs:=fs++c.args.map a.eval++cs) (vB _ _) ?_ (VW hact) (fun hf=>qC ho hc hfe hf);have:(fs++c.args.map a.eval++cs).toList=fs.toList++c.args.toList.map a.eval++cs.toList:=by simp
       rw[this];exact Cc (by simpa using hk) (Pw.map_left ((PRs_iff.1 hcs).mono fun _ _ hh=>by simp only[VR];exact hh)) (EK hargs)
      ·rename_i f caps args heq;simp only[lτ]at heq;obtain⟨rfl,rfl⟩:=heq;simp only[VR]at hfv;obtain⟨fs,cs,hfe,hk,hcs⟩:=hfv;refine hgo (as':=as') (vs:=fs++c.args.map a.eval++cs) (vB _ _) ?_ hact (fun hf=>qC ho hc hfe hf);have:(fs++c.args.map a.eval++cs).toList=fs.toList++c.args.toList.map a.eval++cs.toList:=by simp
       rw[this];exact Cc (by simpa using hk) (VRs_iff.1 hcs) (EK hargs)
      ·simp at hact
     ·simp at hcq
    ·rename_i hb;simp at hb
    ·rename_i hb;simp at hb
end
end
section
variable [Letters] [Mv]
def iC (a b:List Ob):grow a b=a++b:=by cases b<;>simp[grow]
section
variable {P:Program} {G:bY} {N:Nat} {o:Oper} {a:Act} {φ:List cI} {w:World} {S:Nat->Prop} {hp:List Ob} {tm:Tm} {st st':St} {base:Nat}
def HR.reserve (hr:HR φ w S hp)(n:Nat):HR (φ++List.replicate n .none) w S (hp++List.replicate n .unborn)/\(∀b,bC (φ++List.replicate n .none) (hp++List.replicate n .unborn) b->bC φ hp b)/\Ext φ (φ++List.replicate n .none):=by
 have hext:Ext φ (φ++List.replicate n .none):=by
  intro id l hl _;have:id<φ.length:=by
   rcases mα id φ.length with h|h
   ·exact h
   ·simp[lπ h]at hl
  rw[lι this];exact hl
 have hat:∀{id:Nat} {l:cI} {o:Ob},(φ++List.replicate n .none)[id]?=some l->(hp++List.replicate n .unborn)[id]?=some o->(φ[id]?=some l/\hp[id]?=some o)\/(l= .none/\o= .unborn):=by
  intro id l o h1 h2;rcases mα id hp.length with h|h
  ·rw[lι h]at h2;rw[lι (by rw[hr.len];exact h)]at h1;exact .inl ⟨h1,h2⟩
  ·rw[lυ h]at h2;rw[lυ (by rw[hr.len];exact h)]at h1;rw[List.getElem?_replicate]at h1 h2;split at h1<;>simp at h1;split at h2<;>simp at h2;exact .inr ⟨h1.symm,h2.symm⟩
 have hown:∀b,bC (φ++List.replicate n .none) (hp++List.replicate n .unborn) b->bC φ hp b:=by
  rintro b ⟨id,l,o,h1,h2,h3⟩
  rcases hat h1 h2 with⟨g1,g2⟩|⟨rfl,rfl⟩
  ·exact⟨id,l,o,g1,g2,h3⟩
  ·simp[bS]at h3
 refine⟨⟨by simp[hr.len],?_,fun b hb=>hr.own b (hown b hb),?_,hr.low⟩,hown,hext⟩
 ·intro id l o h1 h2;rcases hat h1 h2 with⟨g1,g2⟩|⟨rfl,rfl⟩
  ·exact rn hext (fun _ _=>rfl) (fun _ h=>h) (fun _ _=>rfl) (hr.obj id l o g1 g2)
  ·simp only[OR]
 ·intro id id' l l' o o' b h1 h2 h1' h2' h3 h3';rcases hat h1 h2 with⟨g1,g2⟩|⟨rfl,rfl⟩
  ·rcases hat h1' h2' with⟨g1',g2'⟩|⟨rfl,rfl⟩
   ·exact hr.one id id' l l' o o' b g1 g2 g1' g2' h3 h3'
   ·simp[bS]at h3'
  ·simp[bS]at h3
def oR.reserve (h:oR G N a φ w S st)(n:Nat):oR G N a (φ++List.replicate n .none) w S ⟨st.tm,grow st.hp (List.replicate n .unborn)⟩ where
 tmr:=jR (h.hr.reserve n).2.2 (fun _ _=>rfl) (fun _ h=>h) h.tmr
 gr:=h.gr
 hr:=by simp only[iC];exact(h.hr.reserve n).1
 size:=h.size
 defers:=h.defers
structure YX (P:Program)(G:bY)(raw:Nat->Bool)(N:Nat)(all:List Oper)(o:Oper)(x:eH):Prop where
 op:Ž P G raw o=some (x.op,x.as)
 gd:Dx all o.guard=some x.gd
 dst:x.dst=o.dst
 lt:∀t,o.dst=some t->t<N
def iP {α:Type}{b:Bool}{e:Option α}{r:α}(h:(bif b then e else none)=some r):b=true/\e=some r:=by
 grind
def Dy {raw:Nat->Bool}{all:List Oper}:∀{l:List Oper} {k k':Nat} {xs:List eH},Rx P G raw N all l k=some (xs,k')->Pw (YX P G raw N all) l xs
 |[],k,k',xs,h=>by
  obtain⟨rfl,rfl⟩:=h;exact Pw.nil
 |o::r,k,k',xs,h=>by
  simp only[Rx]at h;split at h
  ·rename_i q as gd hq hgd;obtain⟨hd,h⟩:=iP h;split at h
   ·rename_i ys n hys;obtain⟨rfl,rfl⟩:=h;refine Pw.cons ⟨hq,hgd,rfl,fun t ht=>?_⟩ (Dy hys)
    simp_all
   ·simp at h
  ·simp at h
variable {ops:Array Oper} {raw:Nat->Bool}
def si {x:eH}(ht:Tq φ w S tm a)(hx:YX P G raw N ops.toList o x){b:Bool}(h:dj x tm=some b):Region.wanted o (yielded ops a.tmps)=b:=by
 have hg:=hx.gd;unfold dj at h;unfold Region.wanted;cases hgu:o.guard with
 |none=>
  rw[hgu]at hg;simp only[Dx,lα]at hg;rw[<-hg]at h;simp at h;simp[h]
 |some p=>
  obtain⟨j,want⟩:=p;rw[hgu]at hg;simp only[Dx]at hg;split at hg
  ·rename_i oj hoj;split at hg
   ·rename_i dd hdd;simp only[lα]at hg;rw[<-hg]at h;simp only at h;have hv:=ht dd;have hy:yielded ops a.tmps j=(match a.tmps[dd]? with|some (.bool b)=>some b|_=>none):=by
     unfold yielded;have:ops[j]?=some oj:=by simpa using hoj
     rw[this];simp only[Option.bind_some,hdd];rfl
    split at h
    ·rename_i b' hb';rw[hb']at hv;simp only[VR,PR]at hv;simp only[lα]at h;subst h;have:a.tmps[dd]?=some (.bool b'):=by
      rw[Array.getD_eq_getD_getElem?]at hv;cases hc:a.tmps[dd]? with
      |none=>rw[hc]at hv;simp[undef]at hv
      |some u=>rw[hc]at hv;simp at hv;rw[hv]
     simp only[hy,this];cases b'<;>cases want<;>rfl
    ·rename_i hb';rw[hb']at hv;simp only[VR,AK]at hv;obtain⟨vs,hv,_⟩:=hv;simp only[lα]at h;subst h;have:(match a.tmps[dd]? with|some (.bool b)=>some b|_=>none)=none:=by
      rw[Array.getD_eq_getD_getElem?]at hv;cases hc:a.tmps[dd]? with
      |none=>rfl
      |some u=>rw[hc]at hv;simp at hv;rw[hv]
     simp only[hy,this];rfl
    ·simp at h
   ·simp at hg
  ·simp at hg
def If {call:aG}{x:eH}{ft:ek}(h:pG call base x st=some (st',ft)):st.hp.length<=st'.hp.length:=by
 unfold pG at h;cases hmk:(!(dK x.op)||cZ (aS st.hp (base+x.k)))with
 |false=>simp_all
 |true=>
  rw[hmk]at h;simp at h;split at h
  ·simp at h
  ·obtain⟨rfl,rfl⟩:=h;simp[iC,bP]
def oR.skip (h:oR G N a φ w S st){d:Option Nat}(hd:B7 d a):oR G N (a.put d undef) φ w S ⟨put d (.tup []) st.tm,st.hp⟩ where
 tmr:=N9 hd h.tmr (by exact⟨#[],rfl,by rfl⟩)
 gr:=h.gr
 hr:=h.hr
 size:=by have:=h.size;cases d<;>simpa[Act.put]using this
 defers:=by rw[<-h.defers];cases d<;>simp[Act.put]
def Later (G:bY)(N base:Nat)(φ:List cI)(w:World)(S:Nat->Prop)(st st':St)(a':Act)(w':World):Prop:=
 ∃φ' S',oR G N a' φ' w' S' st'/\Fr (bC φ st.hp) S w (bC φ' st'.hp) S' w'/\(∀id,id<base->φ'[id]?=φ[id]?)/\base<=st'.hp.length
def MT {call:aG}(hcall:ez P G call){raw:Nat->Bool}{ops:Array Oper}{Q:Exit->Act->World->Prop}{stn:St}:∀{l:List Oper} {xs:List eH} {i:Nat} {st:St} {a:Act} {φ:List cI} {w:World} {S:Nat->Prop},(∀j o,l[j]?=some o->ops[i+j]?=some o)->Pw (YX P G raw N ops.toList) l xs->lb call base xs st=some stn->
  oR G N a φ w S st->base<=st.hp.length->(∀a' w',Later G N base φ w S st stn a' w'->Q .normal a' w')->wpOps P ops Q (List.range' i l.length) a w
 |[],xs,i,st,a,φ,w,S,hl,hx,hev,rel,hb,hQ=>by
  obtain rfl:=hx.nil_inv;simp only[lb,lα]at hev;subst hev;exact hQ a w ⟨φ,S,rel,Fr.refl _ _ _,fun _ _=>rfl,hb⟩
 |o::r,xs,i,st,a,φ,w,S,hl,hx,hev,rel,hb,hQ=>by
  obtain⟨x,xr,rfl,hx1,hx2⟩:=hx.cons_inv;have ho:ops[i]?=some o:=by simpa using hl 0 o rfl
  have hl':∀j o',r[j]?=some o'->ops[i+1+j]?=some o':=fun j o' h=>by
   have:=hl (j+1) o' (by simp_all);grind
  rw[List.length_cons,List.range'_succ];simp only[wpOps,ho];simp only[lb]at hev;split at hev
  ·grind
  ·rename_i hgd;split at hev
   ·grind
   ·rename_i st1 ft hop;rw[if_pos (by rw[si rel.tmr hx1 hgd])];refine .inl (Ŋ hcall rel hx1.op hx1.dst hx1.lt hb hop fun a' w' φ' S' rel' hf hφ=>?_);refine MT hcall hl' hx2 hev rel' (mψ hb (If hop)) fun a2 w2 hlat=>hQ a2 w2 ?_
    obtain⟨φ2,S2,r1,r2,r3,r4⟩:=hlat;exact⟨φ2,S2,r1,hf.trans r2,fun id hid=>(r3 id hid).trans (hφ id hid),r4⟩
  ·rename_i hgd;rw[if_neg (by rw[si rel.tmr hx1 hgd];simp)];have hd:B7 o.dst a:=fun t ht=>mω (hx1.lt t ht) rel.size
   rw[hx1.dst]at hev;exact MT hcall hl' hx2 hev (rel.skip hd) hb hQ
def C_ {call:aG}(hcall:ez P G call){id:Nat}{xs:List eH}{nal k:Nat}{Q:Exit->Act->World->Prop}{stn:St}{m:Nat}(hx:Rx P G raw N ops.toList ops.toList 0=some (xs,k))(hev:rV call nal xs none st=some stn)(rel:oR G N a φ w S st)(hm:m<=st.hp.length)(hQ:∀a' w',Later G N m φ w S st stn a' w'->Q .normal a' w'):(Code.region id ops false).wp P Q a w:=by
 refine wp_region ?_;rw[List.range_eq_range',<-Array.length_toList];have hlen:=rel.hr.len;refine MT hcall (base:=st.hp.length) (fun j o h=>by simpa using h) (Dy hx) hev (rel.reserve nal) (by simp[iC]) fun a' w' hlat=>hQ a' w' ?_
 obtain⟨φ2,S2,r1,r2,r3,r4⟩:=hlat;refine⟨φ2,S2,r1,?_,fun id hid=>?_,mψ hm r4⟩
 ·refine Fr.trans (O1:=bC (φ++List.replicate nal .none) (grow st.hp (List.replicate nal .unborn))) (S1:=S) (w1:=w) ?_ r2;rw[iC];exact(Fr.refl _ _ _).less (rel.hr.reserve nal).2.1
 ·rw[r3 id (by omega),lι (by omega)]
end
end
section
def DN (a b:Int):az a b=(a==b):= @ii ⟨fun _=>0⟩ a b
def Ö (a b:LN):be a b=(a==b):= @DP ⟨fun _=>0⟩ a b
def OX:∀{a b:List (Int×Int×Int)},R1 a b=true->a=b
 |[],[],_=>rfl
 |[],_::_,h=>by simp[R1]at h
 |_::_,[],h=>by simp[R1]at h
 |(a,l,h)::r,(b,m,i)::s,hh=>by
  simp only[R1,lγ,DN,beq_iff_eq]at hh;obtain⟨rfl,rfl,rfl,h4⟩:=hh;rw[OX h4]
def Ø {a b:Sy}(h:ϧ a b=true):a=b:=by
 cases a<;>cases b<;>simp only[ϧ,lγ,DN,beq_iff_eq,Bool.false_eq_true]at h
 ·rw[h.1,OX h.2]
 ·rw[h.1,h.2]
mutual
def L0:∀(a b:Da),DL a b=true->a=b
 | .bool a,b,h=>by cases b<;>simp_all [DL]
 | .int i a,b,h=>by cases b<;>simp_all [DL,DN]
 | .str a,b,h=>by cases b<;>simp_all [DL,Ö]
 | .agg a,b,h=>by
  cases b<;>simp only[DL,Bool.false_eq_true]at h;rw[dM _ _ h]
 | .slice z a,b,h=>by
  cases b<;>simp only[DL,Bool.false_eq_true,lγ]at h;rw[lκ h.1,dM _ _ h.2]
 | .nilptr,b,h=>by cases b<;>simp_all [DL]
 | .ptr a,b,h=>by
  cases b<;>simp only[DL,Bool.false_eq_true]at h;rw[L0 _ _ h]
 | .map a b,c,h=>by
  cases c<;>simp only[DL,Bool.false_eq_true,lγ]at h;rw[dM _ _ h.1,dM _ _ h.2]
 | .nilmap,b,h=>by cases b<;>simp_all [DL]
 | .fn f a,b,h=>by
  cases b<;>simp only[DL,Bool.false_eq_true,lγ]at h;rw[lκ h.1,dM _ _ h.2]
 | .nilfn,b,h=>by cases b<;>simp_all [DL]
 | .iface t x,b,h=>by cases b<;>simp[DL]at h
 | .nilif,b,h=>by cases b<;>simp[DL]at h
 | .sliceE z es,b,h=>by cases b<;>simp[DL]at h
 | .sym i a,b,h=>by
  cases b<;>simp only[DL,Bool.false_eq_true,lγ,lε]at h;rw[h.1,Ø h.2]
def dM:∀(a b:LD),lT a b=true->a=b
 |[],[],_=>rfl
 |[],_::_,h=>by simp[lT]at h
 |_::_,[],h=>by simp[lT]at h
 |x::a,y::b,h=>by
  simp only[lT,lγ]at h;rw[L0 _ _ h.1,dM _ _ h.2]
end
mutual
def Ϥ:∀(a b:D),L1 a b=true->a=b
 | .p a,b,h=>by
  cases b<;>simp only[L1,Bool.false_eq_true]at h;rw[L0 _ _ h]
 | .agg a,b,h=>by
  cases b<;>simp only[L1,Bool.false_eq_true]at h;rw[rR _ _ h]
 | .tup _,b,h=>by cases b<;>simp[L1]at h
 | .box i o,b,h=>by
  cases b<;>simp only[L1,Bool.false_eq_true,lγ]at h;rw[lκ h.1,lκ h.2]
 | .el _ _ _,b,h=>by cases b<;>simp[L1]at h
 | .ip _ _,b,h=>by cases b<;>simp[L1]at h
 | .arr i x y z,b,h=>by
  cases b<;>simp only[L1,Bool.false_eq_true,lγ]at h;rw[lκ h.1,lκ h.2.1,lκ h.2.2.1,lκ h.2.2.2]
 | .sl g z a,b,h=>by
  cases b with
  |sl g2 y b=>
   cases g<;>cases g2<;>simp only[L1,Bool.false_eq_true,lγ]at h
   ·rw[lκ h.1,dM _ _ h.2]
   ·rw[lκ h.1,dM _ _ h.2]
  |_=>cases g<;>simp[L1]at h
 | .map i,b,h=>by
  cases b<;>simp only[L1,Bool.false_eq_true]at h;rw[lκ h]
 | .fn f a,b,h=>by
  cases b<;>simp only[L1,Bool.false_eq_true,lγ]at h;rw[lκ h.1,rR _ _ h.2]
 | .iface _ _,b,h=>by cases b<;>simp[L1]at h
 | .junk,b,h=>by cases b<;>simp[L1]at h
def rR:∀(a b:List D),DM a b=true->a=b
 |[],[],_=>rfl
 |[],_::_,h=>by simp[DM]at h
 |_::_,[],h=>by simp[DM]at h
 |x::a,y::b,h=>by
  simp only[DM,lγ]at h;rw[Ϥ _ _ h.1,rR _ _ h.2]
end
def OZ {a b:Ob}(h:Ib a b=true):a=b:=by
 cases a<;>cases b<;>simp only[Ib,Bool.false_eq_true,lγ]at h
 ·rw[rR _ _ h]
 ·rw[dM _ _ h]
 ·rw[dM _ _ h]
 ·rw[dM _ _ h.1,dM _ _ h.2]
 ·rw[dM _ _ h.1,dM _ _ h.2]
 ·rw[dM _ _ h.1,rR _ _ h.2]
 ·rw[eq_of_beq h.1,dM _ _ h.2]
instance mvNone:Mv:=⟨fun _=>false,fun _=>0,fun _=>false,Ib,fun _ _ h=>OZ h,fun _ h=>by cases h⟩
def a_ (f:Nat)(ds:List D)(n:Nat):eo f ds n=n:=rfl
def o_ (vs:List D)(hp:List Ob):pZ vs hp=bL .callv vs hp:=by
 unfold pZ;split<;>rfl
def XT (o:O)(vs:List D)(hp:List Ob):dB o vs hp=bL o vs hp:=by
 cases o<;>first|rfl|exact o_ vs hp
def ħ (call:aG)(base:Nat)(o:O)(kk:Nat)(vs:List D)(ids:LN)(obs:List Ob)(len:Nat):ui call base o kk vs ids obs len=pC call base o kk vs ids obs len:=by
 cases o<;>rfl
variable [Letters] [Mv]
def R4 (call:aG)(base:Nat)(x:eH)(st:St):Option (St×ek):=
 match dj x st.tm with
 |none=>none
 |some true=>pG call base x st
 |some false=>some (⟨put x.dst (.tup []) st.tm,st.hp⟩,⟨[],[],false,0⟩)
def vx:ek:=⟨[],[],false,0⟩
def yP {call:aG}{base:Nat}:∀{xs:List eH} {st st':St} {fs fs':List ek},eD call base xs st fs=some (st',fs')->
  ∃(σ:Nat->St) (F:List ek),σ 0=st/\σ xs.length=st'/\fs'=fs.reverse++F/\F.length=xs.length/\∀(i:Nat) x,xs[i]?=some x->R4 call base x (σ i)=some (σ (i+1),F.getD i vx)
 |[],st,st',fs,fs',h=>by
  obtain⟨rfl,rfl⟩:=h;exact⟨fun _=>st,[],rfl,rfl,by simp,rfl,by simp⟩
 |x::r,st,st',fs,fs',h=>by
  simp only[eD]at h;have key:∀st1 f,R4 call base x st=some (st1,f)->eD call base r st1 (f::fs)=some (st',fs')->
    ∃(σ:Nat->St) (F:List ek),σ 0=st/\σ (x::r).length=st'/\fs'=fs.reverse++F/\F.length=(x::r).length/\∀(i:Nat) y,(x::r)[i]?=some y->R4 call base y (σ i)=some (σ (i+1),F.getD i vx):=by
   intro st1 f h1 h2;obtain⟨σ,F,g1,g2,g3,g4,g5⟩:=yP h2;refine⟨fun i=>match i with|0=>st|i+1=>σ i,f::F,rfl,g2,by simp_all,by simp[g4],fun i y hy=>?_⟩
   grind
  split at h
  ·simp at h
  ·rename_i hg;split at h
   ·simp at h
   ·rename_i st1 f hop;exact key st1 f (by simp[R4,hg,hop]) h
  ·rename_i hg;exact key _ _ (by simp[R4,hg]) h
def Ci {i:Nat}:∀{l:LN},nq i l=true->i∈l
 |[],h=>by cases h
 |j::r,h=>by
  simp only[nq]at h;rw[beq_eq]at h;by_cases hj:j=i
  ·simp_all
  ·simp only[hj,cond_false]at h;exact lρ _ (Ci h)
def uY {ids:LN}{hp:List Ob}{id:Nat}:∀{ups:List (Nat×Ob)} {cur:List Ob},(id∈ids->cur[id]?=hp[id]?)->id∉gV ids hp ups->(ao cur ups)[id]?=cur[id]?
 |[],cur,_,_=>rfl
 |(i,o)::r,cur,hc,h=>by
  simp only[ao,bj];simp only[gV]at h;have step:(cur.set i o)[id]?=cur[id]?/\id∉gV ids hp r:=by
   cases hq:nq i ids&&Mv.eq (aS hp i) o
   ·simp only[hq,cond_false,mδ,not_or]at h;exact⟨by rw[qγ (fun e=>h.1 e.symm)],h.2⟩
   ·simp only[hq,cond_true]at h;refine⟨?_,h⟩;by_cases hi:i=id
    ·subst hi;rw[lγ]at hq;have he:=Mv.ok _ _ hq.2;have hcc:=hc (Ci hq.1);rw[List.getElem?_set,if_pos rfl];cases hx:hp[i]? with
     |none=>
      rw[hx]at hcc;rw[hcc];rw[if_neg];intro hlt;rw[lδ hlt]at hcc;cases hcc
     |some x=>
      rw[hx]at hcc;have hlt:i<cur.length:=by
       rcases mα i cur.length with h1|h1
       ·exact h1
       ·rw[lπ h1]at hcc;cases hcc
      rw[if_pos hlt,hcc,<-he,xq hx]
    ·rw[qγ hi]
  rw[uY (fun hm=>step.1.trans (hc hm)) step.2,step.1]
def nj:∀{ups:List (Nat×Ob)} {hp hp2:List Ob} {id:Nat},hp2[id]?=hp[id]?->(ao hp2 ups)[id]?=(ao hp ups)[id]?
 |[],hp,hp2,id,h=>h
 |(i,o)::r,hp,hp2,id,h=>by
  simp only[ao,bj];refine nj ?_;grind
def wr_iff {f:ek}{id:Nat}:wr f id=true↔id∈f.ws\/(f.grow=true/\f.lim<=id):=by
 simp[wr,ble_eq]
variable {q:O} {vs:List D} {ids:LN} {obs:List Ob} {len':Nat} {ups:List (Nat×Ob)}
def Oj {call:aG}{base:Nat}{k:Nat}{len:Nat}{d:D}(h:pC call base q k vs ids obs len=some (d,ups,[])):pC call base q k vs ids obs len'=some (d,ups,[]):=by
 have key:∀{f:Nat} {args:List D},eY call f args ids obs len=some (d,ups,[])->eY call f args ids obs len'=some (d,ups,[]):=by
  intro f args h;unfold eY at h ⊢
  split at h
  ·simp at h
  ·rename_i r out hc;obtain⟨hle,h⟩:=iP h;simp only[hle,cond_true];simp at h;have hb:back ids.length len ids out.length=back ids.length len' ids out.length:=by
    funext k
    unfold back;rw[blt_eq,blt_eq];grind
   simp_all
 cases q<;>simp only[pC]at h ⊢ <;>first
  |exact h
  |grind
  |(
    unfold Vd at h ⊢
    grind)
def close_congr {hp hp2:List Ob}:∀{n:Nat} {ws acc:LN},(∀id∈cz hp n ws acc,hp2[id]?=hp[id]?)->cz hp2 n ws acc=cz hp n ws acc
 |0,ws,acc,h=>by rfl
 |n+1,[],acc,h=>by rfl
 |n+1,id::ws,acc,h=>by
  simp only[cz]at h ⊢
  split
  ·rename_i hc;rw[if_pos hc]at h;exact close_congr h
  ·rename_i hc;rw[if_neg hc]at h;have hid:hp2[id]?=hp[id]?:=by
    obtain⟨r,hr⟩:=close_prefix (hp:=hp) n (iS (hp.getD id .dead)++ws) (acc++[id]);grind
   have hob:hp2.getD id .dead=hp.getD id .dead:=by simp_all
   rw[hob];exact close_congr h
where
 close_prefix {hp:List Ob}:∀(n:Nat) (ws acc:LN),acc <+: cz hp n ws acc
  |0,ws,acc=>by simp only[cz];simp
  |n+1,[],acc=>by simp only[cz];simp
  |n+1,id::ws,acc=>by
   simp only[cz];split
   ·exact close_prefix n ws acc
   ·exact(List.prefix_append _ _).trans (close_prefix n _ _)
variable {hp2:List Ob}
def qT {hp:List Ob}(h:∀id∈bL q vs hp,hp2[id]?=hp[id]?):bL q vs hp2=bL q vs hp:=by
 cases q<;>simp only[bL]at h ⊢ <;>exact close_congr h
variable {x:eH} {tm tm2:Tm}
def Ih (h:∀t∈gS x,get tm2 t=get tm t):x.as.map (ev tm2)=x.as.map (ev tm):=by
 apply List.map_congr_left;intro y hy;cases y with
 |t n=>
  refine h n ?_;simp only[gS,List.mem_filterMap];grind
 |_=>rfl
def Iq (h:∀t∈gS x,get tm2 t=get tm t):dj x tm2=dj x tm:=by
 unfold dj;cases hg:x.gd with
 |none=>rfl
 |some p=>
  obtain⟨g,want⟩:=p;simp;rw[h g (by simp[gS,hg])]
def XH {hp:List Ob}(h:∀id∈ids,hp2[id]?=hp[id]?):ids.map (aS hp2)=ids.map (aS hp):=by
 apply List.map_congr_left;intro id hid;simp[aS,h id hid]
structure Did (x:eH)(st st1:St)(f:ek)(st2 st2':St):Prop where
 tm1:∀t,x.dst=some t->get st2'.tm t=get st1.tm t
 tm0:∀t,x.dst≠some t->get st2'.tm t=get st2.tm t
 hp1:∀id,wr f id=true->st2'.hp[id]?=st1.hp[id]?
 hp0:∀id,wr f id=false->st2'.hp[id]?=st2.hp[id]?
 len1:f.grow=true->st2'.hp.length=st1.hp.length
 len0:f.grow=false->st2'.hp.length=st2.hp.length
def JH {d:Option Nat}{v:D}{t:Nat}(h:d=some t):get (put d v tm2) t=get (put d v tm) t:=by
 rw[acp,acp,if_pos h,if_pos h]
variable {f:Nat}
def oh {call:aG}{m:Nat}{len:Nat}{d:D}{args:List D}(h:jz call f args m ids obs len=some (d,ups,[])):jz call f args m ids obs len'=some (d,ups,[]):=by
 unfold jz at h ⊢
 split at h
 ·simp at h
 ·rename_i r out hc;obtain⟨hle,h⟩:=iP h;simp only[hle,cond_true];simp at h;have hb:back m len ids out.length=back m len' ids out.length:=by
   funext k
   unfold back;rw[blt_eq,blt_eq];grind
  simp_all
def qB {call:aG}{len:Nat}{d:D}{args:List D}(h:eY call f args ids obs len=some (d,ups,[])):eY call f args ids obs len'=some (d,ups,[]):=by
 rw[B6]at h ⊢
 exact oh h
def Vg {call:aG}{base:Nat}{k:Nat}{len:Nat}{d:D}(h:ui call base q k vs ids obs len=some (d,ups,[])):ui call base q k vs ids obs len'=some (d,ups,[]):=by
 cases hq:dF q
 ·rw[yr hq]at h ⊢
  exact Oj h
 ·cases q<;>first
   |(simp[dF]at hq;done)
   |(
     simp only[ui,nZ]at h ⊢
     revert h
     cases Mv.mv _<;>intro h
     ·exact qB h
     ·exact oh h)
   |(
     simp only[ui,yD]at h ⊢
     split at h
     ·revert h
      cases Mv.mv _<;>intro h
      ·exact qB h
      ·cases h
     ·unfold nZ at h ⊢
      revert h
      cases Mv.mv _<;>intro h
      ·exact qB h
      ·exact oh h
     ·cases h)
   |exact Oj (call:=call) (q:= .clone) (len:=len) (len':=len') h
def zu {raw:Bool}{hp:List Ob}(h:∀id∈dB (.call f raw) vs hp,hp2[id]?=hp[id]?):dB (.call f raw) vs hp2=dB (.call f raw) vs hp:=by
 simp only[dB,qK]at h ⊢
 revert h
 cases Mv.mv f<;>intro h
 ·exact close_congr h
 ·have hd:((jV (dids.didsL vs) []).flatMap fun i=>iS (aS hp2 i))=(jV (dids.didsL vs) []).flatMap fun i=>iS (aS hp i):=by
   have key:∀i∈jV (dids.didsL vs) [],aS hp2 i=aS hp i:=fun i hi=>by
    have:=h i ((close_congr.close_prefix _ _ _).subset hi);simp[aS,this]
   generalize jV (dids.didsL vs) []=l at key ⊢
   induction l with
   |nil=>rfl
   |cons a r ih=>
    simp only[List.flatMap_cons];rw[key a (lη ..),ih fun i hi=>key i (lρ _ hi)]
  rw[hd];exact close_congr h
def I6 {hp:List Ob}(h:∀id∈pZ vs hp,hp2[id]?=hp[id]?):pZ vs hp2=pZ vs hp:=by
 unfold pZ at h ⊢
 split at h
 ·rename_i f caps args;revert h;cases hm:Mv.mv (F9 f)<;>intro h
  ·exact qT (q:= .callv) h
  ·exact zu (f:=F9 f) (raw:=false) h
 ·exact qT (q:= .callv) h
def I5 {hp:List Ob}(h:∀id∈dB q vs hp,hp2[id]?=hp[id]?):dB q vs hp2=dB q vs hp:=by
 cases hq:dF q
 ·rw[lZ hq]at h;rw[lZ hq,lZ hq];exact qT h
 ·cases q<;>first
   |rfl
   |exact zu h
   |exact I6 h
   |rfl
def pg {call:aG}{base:Nat}{st st1:St}{f:ek}(h:R4 call base x st=some (st1,f)){st2:St}(ha:∀t∈gS x,get st2.tm t=get st.tm t)(hb:∀id,id∈f.rs\/id∈f.ws->st2.hp[id]?=st.hp[id]?)(hc:f.grow=true->st2.hp.length=st.hp.length):
  ∃st2' f',R4 call base x st2=some (st2',f')/\Did x st st1 f st2 st2':=by
 unfold R4 at h ⊢
 rw[Iq ha];split at h
 ·simp at h
 ·rename_i hg;unfold pG at h;simp only at h;obtain⟨hmk,h⟩:=iP h;split at h
  ·simp at h
  ·rename_i d ups new hact;simp only[lα,lζ]at h;obtain⟨rfl,rfl⟩:=h;simp only at hb hc;have hids:∀id∈dB x.op (x.as.map (ev st.tm)) st.hp,st2.hp[id]?=st.hp[id]?:=fun id hid=>hb id (.inl (by cases dK x.op<;>simp[hid]))
   have hn:dB x.op (x.as.map (ev st2.tm)) st2.hp=dB x.op (x.as.map (ev st.tm)) st.hp:=by rw[Ih ha];exact I5 hids
   have hmk2:(!(dK x.op)||cZ (aS st2.hp (base+x.k)))=true:=by
    cases hm:dK x.op with
    |false=>rfl
    |true=>
     rw[hm]at hmk;have:aS st2.hp (base+x.k)=aS st.hp (base+x.k):=by
      simp only[aS,mν];rw[hb (base+x.k) (.inl (by rw[hm];simp))]
     rw[this];exact hmk
   have hact2:ui call base x.op x.k (x.as.map (ev st2.tm)) (dB x.op (x.as.map (ev st2.tm)) st2.hp) ((dB x.op (x.as.map (ev st2.tm)) st2.hp).map (aS st2.hp)) st2.hp.length=some (d,ups,new):=by
    rw[hn,Ih ha,XH hids];cases new with
    |nil=>exact Vg hact
    |cons o r=>rw[hc rfl];exact hact
   refine⟨⟨put x.dst d st2.tm,grow (ao st2.hp ups) new⟩,_,by unfold pG;simp only[hmk2,cond_true,hact2];rfl,?_⟩
   have hle:∀hp:List Ob,(grow (ao hp ups) new).length=hp.length+new.length:=fun hp=>by simp[iC,bP]
   have hwr:∀id,wr ⟨bif dK x.op then(base+x.k)::dB x.op (x.as.map (ev st.tm)) st.hp else dB x.op (x.as.map (ev st.tm)) st.hp,gV (dB x.op (x.as.map (ev st.tm)) st.hp) st.hp ups,!new.isEmpty,st.hp.length⟩ id=true->(grow (ao st2.hp ups) new)[id]?=(grow (ao st.hp ups) new)[id]?:=by
    intro id hw;rw[wr_iff]at hw;simp only at hw;rw[iC,iC];cases new with
    |nil=>
     simp only[mξ];have hw':=hw.resolve_right (by simp);exact nj (hb id (.inr hw'))
    |cons o r=>
     have hl:=hc rfl;rcases mα id st.hp.length with h1|h1
     ·have hw':=hw.resolve_right (by simp;omega);rw[lι (by rw[bP];omega),lι (by rw[bP];exact h1)];exact nj (hb id (.inr hw'))
     ·rw[lυ (by rw[bP];omega),lυ (by rw[bP];exact h1),bP,bP,hl]
   refine⟨fun t ht=>JH ht,fun t ht=>by simp only;rw[acp,if_neg ht],hwr,fun id hw=>?_,fun hg'=>?_,fun hg'=>?_⟩
   ·have hw':¬(id∈gV (dB x.op (x.as.map (ev st.tm)) st.hp) st.hp ups\/((!new.isEmpty)=true/\st.hp.length<=id)):=fun hh=>by
     have:=wr_iff (f:=⟨bif dK x.op then(base+x.k)::dB x.op (x.as.map (ev st.tm)) st.hp else dB x.op (x.as.map (ev st.tm)) st.hp,gV (dB x.op (x.as.map (ev st.tm)) st.hp) st.hp ups,!new.isEmpty,st.hp.length⟩).2 hh
     rw[hw]at this;simp at this
    simp only[not_or]at hw';simp only[iC];cases new with
    |nil=>rw[mξ];exact uY (hids id) hw'.1
    |cons o r=>
     have hl:=hc rfl;have:id<st.hp.length:=by
      have:=hw'.2;simp at this;omega
     rw[lι (by rw[bP];omega)];exact uY (hids id) hw'.1
   ·simp only[hle];rw[hc hg']
   ·simp only[hle];have:new=[]:=by simpa using hg'
    simp[this]
 ·rename_i hg;simp only[lα,lζ]at h;obtain⟨rfl,rfl⟩:=h;exact⟨_,_,rfl,fun t ht=>JH ht,fun t ht=>by simp only;rw[acp,if_neg ht],by intro id hw;simp[wr]at hw,fun _ _=>rfl,by intro hh;simp at hh,fun _=>rfl⟩
def WS {call:aG}{base:Nat}{st st1:St}{f:ek}(h:R4 call base x st=some (st1,f))(hh:fg x.op=false):f.rs=[]/\f.ws=[]/\f.grow=false:=by
 unfold R4 at h;split at h
 ·simp at h
 ·unfold pG at h;simp only at h;obtain⟨hmk,h⟩:=iP h;split at h
  ·simp at h
  ·rename_i d ups new hact;simp only[lα,lζ]at h;obtain⟨rfl,rfl⟩:=h;have hnc:dF x.op=false:=by
    cases hq:x.op<;>rw[hq]at hh<;>simp[fg]at hh<;>rfl
   rw[yr hnc]at hact;have hval:∀{e:D},val e=some (d,ups,new)->ups=[]/\new=[]:=fun he=>(lr he).2
   have hvalP:∀{e:Option Da},ka e=some (d,ups,new)->ups=[]/\new=[]:=fun he=>by obtain⟨_,_,_,h1,h2⟩:=Kk he;exact⟨h1,h2⟩
   have key:ups=[]/\new=[]:=by
    clear hnc;generalize dB x.op (x.as.map (ev st.tm)) st.hp=ids0 at hact;generalize x.as.map (ev st.tm)=vs at hact;generalize x.op=q at hact hh;cases q<;>simp only[fg,reduceCtorEq,Bool.true_eq_false]at hh;all_goals simp only[pC]at hact
    all_goals first
     |(simp at hact;done)
     |(unfold W_ at hact)
     |(unfold BU at hact)
     |(unfold qt at hact)
     |(unfold qu at hact;simp only[cond_eq_ite]at hact)
     |(unfold Dn at hact)
     |(unfold U7 at hact)
     |(unfold U8 at hact)
     |(unfold BT at hact)
     |(unfold aUn at hact)
     |(unfold Od at hact)
     |(unfold Oh at hact)
     |(unfold Og at hact)
     |(unfold HC at hact)
     |(unfold Ly at hact;simp only[cond_eq_ite]at hact)
     |(unfold mV at hact)
     |(unfold Oi at hact)
     |(unfold Rf at hact;simp only[cond_eq_ite]at hact)
     |(unfold iN at hact;rw[qβ]at hh;obtain⟨rfl,hh⟩:=hh;simp only[hh,Bool.false_and,cond_eq_ite,Bool.false_eq_true,if_false]at hact)
     |(unfold Ũ at hact)
     |(unfold Hy at hact)
     |(unfold Oe at hact;simp only[cond_eq_ite]at hact)
     |(unfold Hz at hact;simp only[cond_eq_ite]at hact)
     |(unfold Zn at hact)
     |(unfold Lx at hact)
     |(unfold Zm at hact)
     |(unfold Of at hact)
     |(unfold HB at hact)
     |(unfold rx at hact;simp only[cond_eq_ite]at hact)
     |(unfold Vf at hact)
     |(unfold aaf at hact)
     |(unfold qv at hact;simp only[cond_eq_ite]at hact)
     |skip
    all_goals (repeat' split at hact)
    all_goals first
     |(simp at hact;done)
     |exact hval hact
     |exact hvalP hact
   obtain⟨rfl,rfl⟩:=key;have hm:dK x.op=false:=by
    cases hq:x.op<;>rw[hq]at hh<;>simp[fg]at hh<;>rfl
   have hn:dB x.op (x.as.map (ev st.tm)) st.hp=[]:=by
    rw[lZ hnc];clear hnc;cases hq:x.op<;>rw[hq]at hh<;>simp only[fg,reduceCtorEq,Bool.true_eq_false]at hh<;>first
     |rfl
     |(simp only[bL,hh,cond_false])
   rw[hm,hn];exact⟨rfl,rfl,rfl⟩
 ·simp only[lα,lζ]at h;obtain⟨_,rfl⟩:=h;exact⟨rfl,rfl,rfl⟩
end
section
variable [Letters] [Mv]
def mf (o:Oper):LN:=(o.after.toList.filter mZ).map (·.on)
def rQ:∀{l:List Oper} {n:Nat},ic l n=true->∀(j:Nat) o,l[j]?=some o->∀d∈mf o,d<n+j
 |[],n,h,j,o,ho,d,hd=>by grind
 |x::r,n,h,j,o,ho,d,hd=>by
  simp only[ic,lγ,mζ]at h;cases j with
  |zero=>
   simp at ho;subst ho;simp only[mf,List.mem_map,List.mem_filter]at hd;obtain⟨e,⟨he,hb⟩,rfl⟩:=hd;have:=h.1 e he;simp_all
  |succ j=>
   have:=rQ h.2 j o (by simp_all) d hd;omega
def Ot:∀(l:List Oper) (acc:List LN),∃r,AL l acc=acc++r/\r.length=l.length/\
  ∀(j:Nat) o,l[j]?=some o->∀x∈(AL l acc).getD (acc.length+j) [],x∈mf o\/∃d∈mf o,d<acc.length+j/\x∈(AL l acc).getD d []
 |[],acc=>⟨[],by simp[AL],rfl,by simp⟩
 |o::r,acc=>by
  simp only[AL];obtain⟨q,h1,h2,h3⟩:=Ot r (acc++[(((o.after.toList.filter mZ).map (·.on))++((o.after.toList.filter mZ).map (·.on)).flatMap fun d=>acc.getD d []).eraseDups]);refine⟨_::q,by rw[h1];simp;rfl,by simp[h2],fun j o' ho x hx=>?_⟩
  cases j with
  |zero=>
   simp at ho;subst ho;rw[h1]at hx;simp only[Nat.add_zero,mν,mπ,lυ (Nat.le_refl _),Nat.sub_self,List.singleton_append,List.getElem?_cons_zero,Option.getD_some,List.mem_eraseDups,mσ,List.mem_flatMap]at hx;rcases hx with hx|⟨d,hd,hx⟩
   ·exact .inl hx
   ·have hlt:d<acc.length:=by
     grind
    refine .inr ⟨d,hd,by omega,?_⟩
    grind
  |succ j=>
   have:=h3 j o' (by simp_all) x (by
    grind)
   grind
def zC {xs:List eH}{an:LN}{x:eH}{n:Nat}:∀{l:LN} {ps:List (Nat×Nat)},xw xs an x n l=some ps->∀i∈l,i∈an\/∃y,xs[i]?=some y/\tN y x=true/\((fg y.op&&fg x.op)=true->(i,n)∈ps)
 |[],ps,h,i,hi=>by grind
 |k::r,ps,h,i,hi=>by
  simp only[xw]at h;split at h
  ·simp at h
  ·rename_i qs hqs;have ih:=zC hqs;grind
def vC {xs:List eH}{an:List LN}:∀{l:LN} {ps:List (Nat×Nat)},mb xs an l=some ps->∀n∈l,∃x a,xs[n]?=some x/\an[n]?=some a/\∀i,i<n->i∈a\/∃y,xs[i]?=some y/\tN y x=true/\((fg y.op&&fg x.op)=true->(i,n)∈ps)
 |[],ps,h,n,hn=>by grind
 |k::r,ps,h,n,hn=>by
  simp only[mb]at h;split at h
  ·rename_i x a hx ha;split at h
   ·rename_i p1 p2 h1 h2;simp at h;subst h;rcases mδ.1 hn with rfl|hn
    ·refine⟨x,a,hx,ha,fun i hi=>?_⟩
     rcases zC h1 i (by simp_all)with h|⟨y,g1,g2,g3⟩;all_goals simp_all
    ·obtain⟨x',a',g1,g2,g3⟩:=vC h2 n hn;grind
   ·simp at h
  ·simp at h
def vm {fs:List ek}:∀{ps:List (Nat×Nat)},fx fs ps=true->∀i j,(i,j)∈ps->kX (fs.getD i vx) (fs.getD j vx)=true
 |[],h,i,j,hm=>by grind
 |(p,q)::r,h,i,j,hm=>by
  simp only[fx]at h;split at h
  ·rw[lγ]at h;rcases mδ.1 hm with he|hm
   ·simp_all
   ·exact vm h.2 i j hm
  ·simp at h
structure TB (x y:eH)(f g:ek):Prop where
 t1:∀d,x.dst=some d->d∉gS y
 t2:∀d,x.dst=some d->y.dst≠some d
 t3:∀d,y.dst=some d->d∉gS x
 r1:∀id,id∈g.rs\/id∈g.ws->wr f id=false
 r2:∀id,id∈f.rs\/id∈f.ws->wr g id=false
 gg:¬(f.grow=true/\g.grow=true)
def Nw {x y:eH}(h:tN x y=true):(∀d,x.dst=some d->d∉gS y)/\(∀d,x.dst=some d->y.dst≠some d)/\(∀d,y.dst=some d->d∉gS x):=by
 unfold tN at h;rw[lγ]at h;refine⟨fun d hd=>?_,fun d hd=>?_,fun d hd=>?_⟩
 ·simp_all
 ·have:=h.1;rw[hd]at this;intro he;simp_all
 all_goals simp_all
def Vj {f g:ek}(h:kX f g=true):(∀id,id∈g.rs\/id∈g.ws->wr f id=false)/\(∀id,id∈f.rs\/id∈f.ws->wr g id=false)/\¬(f.grow=true/\g.grow=true):=by
 unfold kX at h;grind
structure qn (call:aG)(base:Nat)(ops:List Oper)(xs:List eH)(an:List LN)(σ:Nat->St)(F:Nat->ek):Prop where
 len:ops.length=xs.length
 step:∀(i:Nat) x,xs[i]?=some x->R4 call base x (σ i)=some (σ (i+1),F i)
 back:∀(j:Nat) o,ops[j]?=some o->∀d∈mf o,d<j
 anc:∀(j:Nat) o,ops[j]?=some o->∀x∈an.getD j [],x∈mf o\/∃d∈mf o,d<j/\x∈an.getD d []
 pair:∀(i j:Nat) x y,i<j->xs[i]?=some x->xs[j]?=some y->i∈an.getD j []\/TB x y (F i) (F j)
variable {st:St}
def Ċ {call:aG}{base:Nat}{ops:List Oper}{xs:List eH}{ps:List (Nat×Nat)}{st':St}{fs:List ek}(hl:ops.length=xs.length)(hb:ic ops 0=true)(hp:mb xs (AL ops []) (List.range xs.length)=some ps)(hev:eD call base xs st []=some (st',fs))(ha:fx fs ps=true):
  ∃σ F,σ 0=st/\σ xs.length=st'/\qn call base ops xs (AL ops []) σ F:=by
 obtain⟨σ,fl,h1,h2,h3,h4,h5⟩:=yP hev;subst h3;refine⟨σ,fun i=>fs.getD i vx,h1,h2,hl,h5,fun j o ho d hd=>by have:=rQ hb j o ho d hd;omega,?_,?_⟩
 ·obtain⟨r,g1,g2,g3⟩:=Ot ops [];simp_all
 ·intro i j x y hij hx hy;have hj:j<xs.length:=by
   grind
  obtain⟨y',a,q1,q2,q3⟩:=vC hp j (by simp_all);rw[hy]at q1;simp at q1;subst q1;rcases q3 i hij with h|⟨x',p1,p2,p3⟩
  ·simp_all
  ·rw[hx]at p1;simp at p1;subst p1;obtain⟨t1,t2,t3⟩:=Nw p2;right;cases hh:(fg x.op&&fg y.op)with
   |true=>
    obtain⟨r1,r2,gg⟩:=Vj (vm ha i j (p3 hh));exact⟨t1,t2,t3,r1,r2,gg⟩
   |false=>
    have idle:∀{k:Nat} {z:eH},xs[k]?=some z->fg z.op=false->(fs.getD k vx).rs=[]/\(fs.getD k vx).ws=[]/\(fs.getD k vx).grow=false:=fun hz hh=>WS (h5 _ _ hz) hh
    rw[Bool.and_eq_false_iff]at hh;rcases hh with hh|hh
    ·obtain⟨a1,a2,a3⟩:=idle hx hh;exact⟨t1,t2,t3,fun id _=>by simp only[wr,a2,a3];simp,fun id hid=>by simp_all,fun hg=>by simp_all⟩
    ·obtain⟨a1,a2,a3⟩:=idle hy hh;exact⟨t1,t2,t3,fun id hid=>by simp_all,fun id _=>by simp only[wr,a2,a3];simp,fun hg=>by simp_all⟩
section
variable {call:aG} {base:Nat} {ops:List Oper} {xs:List eH} {an:List LN} {σ:Nat->St} {F:Nat->ek}
def wrT (xs:List eH)(j t:Nat):Prop:=∃x,xs[j]?=some x/\x.dst=some t
def wrH (xs:List eH)(F:Nat->ek)(j id:Nat):Prop:=j<xs.length/\wr (F j) id=true
def wrL (xs:List eH)(F:Nat->ek)(j:Nat):Prop:=j<xs.length/\(F j).grow=true
def qn.stillT (p:qn call base ops xs an σ F){t:Nat}{m:Nat}:∀(k:Nat),m+k<=xs.length->(∀j,m<=j->j<m+k->¬wrT xs j t)->get (σ (m+k)).tm t=get (σ m).tm t
 |0,_,_=>rfl
 |k+1,hle,h=>by
  rw[<-p.stillT k (by omega) fun j h1 h2=>h j h1 (by omega)];have hx:xs[m+k]?=some xs[m+k]:=lδ (by omega);obtain⟨st2',f',h1,h2⟩:=pg (p.step _ _ hx) (st2:=σ (m+k)) (fun _ _=>rfl) (fun _ _=>rfl) (fun _=>rfl);rw[p.step _ _ hx]at h1;simp only[lα,lζ]at h1;obtain⟨rfl,rfl⟩:=h1;exact h2.tm0 t fun e=>h (m+k) (by omega) (by omega) ⟨_,hx,e⟩
def qn.stillH (p:qn call base ops xs an σ F){id:Nat}{m:Nat}:∀(k:Nat),m+k<=xs.length->(∀j,m<=j->j<m+k->¬wrH xs F j id)->(σ (m+k)).hp[id]?=(σ m).hp[id]?
 |0,_,_=>rfl
 |k+1,hle,h=>by
  rw[<-p.stillH k (by omega) fun j h1 h2=>h j h1 (by omega)];have hx:xs[m+k]?=some xs[m+k]:=lδ (by omega);obtain⟨st2',f',h1,h2⟩:=pg (p.step _ _ hx) (st2:=σ (m+k)) (fun _ _=>rfl) (fun _ _=>rfl) (fun _=>rfl);rw[p.step _ _ hx]at h1;obtain⟨rfl,rfl⟩:=h1;refine h2.hp0 id ?_;cases hw:wr (F (m+k)) id with
  |false=>rfl
  |true=>exact absurd ⟨by omega,hw⟩ (h (m+k) (by omega) (by omega))
def qn.stillL (p:qn call base ops xs an σ F){m:Nat}:∀(k:Nat),m+k<=xs.length->(∀j,m<=j->j<m+k->¬wrL xs F j)->(σ (m+k)).hp.length=(σ m).hp.length
 |0,_,_=>rfl
 |k+1,hle,h=>by
  rw[<-p.stillL k (by omega) fun j h1 h2=>h j h1 (by omega)];have hx:xs[m+k]?=some xs[m+k]:=lδ (by omega);obtain⟨st2',f',h1,h2⟩:=pg (p.step _ _ hx) (st2:=σ (m+k)) (fun _ _=>rfl) (fun _ _=>rfl) (fun _=>rfl);rw[p.step _ _ hx]at h1;obtain⟨rfl,rfl⟩:=h1;refine h2.len0 ?_;cases hw:(F (m+k)).grow with
  |false=>rfl
  |true=>exact absurd ⟨by omega,hw⟩ (h (m+k) (by omega) (by omega))
structure Ĥ (xs:List eH)(σ:Nat->St)(F:Nat->ek)(X:Nat->Prop)(st:St):Prop where
 T:∀m,m<=xs.length->∀t,(∀j,j<m->wrT xs j t->X j)->(∀j,m<=j->wrT xs j t->¬X j)->get st.tm t=get (σ m).tm t
 H:∀m,m<=xs.length->∀id,(∀j,j<m->wrH xs F j id->X j)->(∀j,m<=j->wrH xs F j id->¬X j)->st.hp[id]?=(σ m).hp[id]?
 L:∀m,m<=xs.length->(∀j,j<m->wrL xs F j->X j)->(∀j,m<=j->wrL xs F j->¬X j)->st.hp.length=(σ m).hp.length
def qn.start (p:qn call base ops xs an σ F):Ĥ xs σ F (fun _=>False) (σ 0) where
 T m hm t h1 _:=by
  have:=p.stillT (m:=0) (t:=t) m (by omega) (fun j _ hj=>fun hw=>h1 j (by omega) hw);simp_all
 H m hm id h1 _:=by
  have:=p.stillH (m:=0) (id:=id) m (by omega) (fun j _ hj=>fun hw=>h1 j (by omega) hw);simp_all
 L m hm h1 _:=by
  have:=p.stillL (m:=0) m (by omega) (fun j _ hj=>fun hw=>h1 j (by omega) hw);simp_all
def YJ (ops:List Oper)(X:Nat->Prop):Prop:=∀(j:Nat) o,ops[j]?=some o->X j->∀d∈mf o,X d
def qn.anc_in (p:qn call base ops xs an σ F){X:Nat->Prop}(hd:YJ ops X):∀(j:Nat),(∀o,ops[j]?=some o->∀d∈mf o,X d)->j<ops.length->∀x∈an.getD j [],X x:=by
 intro j;induction j using Nat.strongRecOn with
 |_ j ih=>
  intro hj hlt x hx;have ho:ops[j]?=some ops[j]:=lδ hlt;rcases p.anc j _ ho x hx with h|⟨d,hd1,hd2,hx⟩
  ·simp_all
  ·exact ih d hd2 (fun o' ho'=>hd d o' ho' (hj _ ho d hd1)) (by omega) x hx
def qn.more (p:qn call base ops xs an σ F){X:Nat->Prop}(hd:YJ ops X)(inv:Ĥ xs σ F X st){i:Nat}{x:eH}(hx:xs[i]?=some x)(hni:¬X i)(hr:∀o,ops[i]?=some o->∀d∈mf o,X d):
  ∃st' f',R4 call base x st=some (st',f')/\Ĥ xs σ F (fun j=>X j\/j=i) st':=by
 have hlt:i<xs.length:=by
  rcases mα i xs.length with h|h
  ·exact h
  ·simp[lπ h]at hx
 have hanc:∀k∈an.getD i [],X k:=p.anc_in hd i hr (by rw[p.len];exact hlt)
 -- what was run and is not kX from i comes ahead of it
 have before:∀j y,j<i->xs[j]?=some y->X j\/TB y x (F j) (F i):=fun j y hj hy=>(p.pair j i y x hj hy hx).imp_left (hanc j)
 have behind:∀j y,i<j->xs[j]?=some y->X j->TB x y (F i) (F j):=fun j y hj hy hX=>(p.pair i j x y hj hx hy).resolve_left fun h=>
  hni (p.anc_in hd j (fun o ho=>hd j o ho hX) (by
   rw[p.len];rcases mα j xs.length with h|h
   ·exact h
   ·simp[lπ h]at hy) i h)
 have getx:∀j,j<xs.length->xs[j]?=some (xs.getD j x):=fun j hj=>by rw[mν,lδ hj];rfl
 obtain⟨st',f',h1,h2⟩:=pg (p.step i x hx) (st2:=st)
  (fun t ht=>inv.T i (by omega) t
   (fun j hj ⟨y,hy,hdt⟩=>(before j y hj hy).resolve_right fun ap=>ap.t1 t hdt ht)
   (fun j hj ⟨y,hy,hdt⟩ hX=>by
    rcases Nat.eq_or_lt_of_le hj with rfl|hj
    ·exact hni hX
    ·exact(behind j y hj hy hX).t3 t hdt ht))
  (fun id hid=>inv.H i (by omega) id
   (fun j hj ⟨hl,hw⟩=>(before j _ hj (getx j hl)).resolve_right fun ap=>by have:=ap.r1 id hid;rw[hw]at this;simp at this)
   (fun j hj ⟨hl,hw⟩ hX=>by
    rcases Nat.eq_or_lt_of_le hj with rfl|hj
    ·exact hni hX
    ·have:=(behind j _ hj (getx j hl) hX).r2 id hid;rw[hw]at this;simp at this))
  (fun hg=>inv.L i (by omega)
   (fun j hj ⟨hl,hw⟩=>(before j _ hj (getx j hl)).resolve_right fun ap=>ap.gg ⟨hw,hg⟩)
   (fun j hj ⟨hl,hw⟩ hX=>by
    rcases Nat.eq_or_lt_of_le hj with rfl|hj
    ·exact hni hX
    ·exact(behind j _ hj (getx j hl) hX).gg ⟨hg,hw⟩))
 refine⟨st',f',h1,⟨fun m hm t k1 k2=>?_,fun m hm id k1 k2=>?_,fun m hm k1 k2=>?_⟩⟩
 ·by_cases hdt:x.dst=some t
  ·have him:i<m:=by
    rcases mα i m with h|h
    ·exact h
    ·exact absurd (.inr rfl) (k2 i h ⟨x,hx,hdt⟩)
   rw[h2.tm1 t hdt];have:=p.stillT (t:=t) (m:=i+1) (m - (i+1)) (by omega) (fun j hj1 hj2=>fun⟨y,hy,hyt⟩=>by
    have hX:=(k1 j (by omega) ⟨y,hy,hyt⟩).resolve_right (by omega);exact(behind j y (by omega) hy hX).t2 t hdt hyt)
   rw[show i+1+(m - (i+1))=m by omega]at this;exact this.symm
  ·rw[h2.tm0 t hdt];have hne:∀j,wrT xs j t->j≠i:=by
    rintro j ⟨y,hy,hyt⟩ rfl
    rw[hx]at hy;simp at hy;subst hy;exact hdt hyt
   exact inv.T m hm t (fun j hj hw=>(k1 j hj hw).resolve_right (hne j hw)) (fun j hj hw hX=>k2 j hj hw (.inl hX))
 ·cases hwi:wr (F i) id with
  |true=>
   have him:i<m:=by
    rcases mα i m with h|h
    ·exact h
    ·exact absurd (.inr rfl) (k2 i h ⟨hlt,hwi⟩)
   rw[h2.hp1 id hwi];have:=p.stillH (id:=id) (m:=i+1) (m - (i+1)) (by omega) (fun j hj1 hj2=>fun⟨hl,hw⟩=>by
    have hX:=(k1 j (by omega) ⟨hl,hw⟩).resolve_right (by omega);have ap:=behind j _ (by omega) (getx j hl) hX;rw[wr_iff]at hwi hw;rcases hwi with h|⟨hg,hlim⟩
    ·have:=ap.r2 id (.inr h);rw[wr_iff.2 hw]at this;simp at this
    ·rcases hw with h|⟨hg',_⟩
     ·have:=ap.r1 id (.inr h);have hh:wr (F i) id=true:=wr_iff.2 (.inr ⟨hg,hlim⟩);rw[hh]at this;simp at this
     ·exact ap.gg ⟨hg,hg'⟩)
   rw[show i+1+(m - (i+1))=m by omega]at this;exact this.symm
  |false=>
   rw[h2.hp0 id hwi];have hne:∀j,wrH xs F j id->j≠i:=by
    rintro j ⟨hl,hw⟩ rfl
    rw[hwi]at hw;simp at hw
   exact inv.H m hm id (fun j hj hw=>(k1 j hj hw).resolve_right (hne j hw)) (fun j hj hw hX=>k2 j hj hw (.inl hX))
 ·cases hwi:(F i).grow with
  |true=>
   have him:i<m:=by
    rcases mα i m with h|h
    ·exact h
    ·exact absurd (.inr rfl) (k2 i h ⟨hlt,hwi⟩)
   rw[h2.len1 hwi];have:=p.stillL (m:=i+1) (m - (i+1)) (by omega) (fun j hj1 hj2=>fun⟨hl,hw⟩=>by
    have hX:=(k1 j (by omega) ⟨hl,hw⟩).resolve_right (by omega);exact(behind j _ (by omega) (getx j hl) hX).gg ⟨hwi,hw⟩)
   rw[show i+1+(m - (i+1))=m by omega]at this;exact this.symm
  |false=>
   rw[h2.len0 hwi];have hne:∀j,wrL xs F j->j≠i:=by
    rintro j ⟨hl,hw⟩ rfl
    rw[hwi]at hw;simp at hw
   exact inv.L m hm (fun j hj hw=>(k1 j hj hw).resolve_right (hne j hw)) (fun j hj hw hX=>k2 j hj hw (.inl hX))
def Ĥ.all {X:Nat->Prop}(inv:Ĥ xs σ F X st)(h:∀j,j<xs.length->X j):(∀t,get st.tm t=get (σ xs.length).tm t)/\st.hp=(σ xs.length).hp:=by
 refine⟨fun t=>inv.T _ (Nat.le_refl _) t (fun j hj _=>h j hj) (fun j hj ⟨y,hy,_⟩=>by rw[lπ hj]at hy;simp at hy),?_⟩
 apply List.ext_getElem?;intro id;exact inv.H _ (Nat.le_refl _) id (fun j hj _=>h j hj) (fun j hj ⟨hl,_⟩=>absurd hj (by omega))
end
end
section
variable [Letters] [Mv]
def cO (listed:Array Bool)(j:Nat):Prop:=listed[j]?=some true
section
variable {P:Program} {G:bY} {N:Nat} {call:aG} {base:Nat} {ops:Array Oper} {xs:List eH} {an:List LN} {σ:Nat->St} {F:Nat->ek}
variable {listed:Array Bool}
def zI (hs:listed.size=ops.size){i:Nat}:i∈Region.ready .any ops listed↔i<ops.size/\listed[i]?=some false/\∀o,ops[i]?=some o->∀d∈mf o,cO listed d:=by
 unfold Region.ready;rw[List.mem_filter];have hget:∀{j:Nat},listed.getD j false=true↔cO listed j:=by
  intro j;unfold cO;rw[Array.getD_eq_getD_getElem?];grind
 constructor
 ·rintro⟨h1,h2⟩
  have hi:i<ops.size:=by simp_all
  rw[lγ]at h2;obtain⟨h3,h4⟩:=h2;refine⟨hi,?_,?_⟩
  ·simp_all
  ·intro o ho d hd;rw[ho]at h4;simp only[mf,List.mem_map,List.mem_filter]at hd;obtain⟨e,⟨he,hb⟩,rfl⟩:=hd;have h5:=Array.all_eq_true'.1 h4 e (by simp_all);have:mZ e=Region.binds .any e:=rfl;simp_all
 ·rintro⟨hi,hl,h⟩
  refine⟨by simp_all,?_⟩
  rw[lγ];refine⟨by simp_all,?_⟩
  have ho:ops[i]?=some ops[i]:=Array.getElem?_eq_getElem hi;rw[ho];simp only[Option.map_some,Option.getD_some];rw[Array.all_eq_true'];intro e he;cases hb:mZ e with
  |false=>
   have:Region.binds .any e=false:=hb;grind
  |true=>
   have:=h _ ho e.on (by
    simp only[mf,List.mem_filter];grind)
   simp_all
def CJ (p:qn call base ops.toList xs an σ F)(hs:listed.size=ops.size)(h:Region.ready .any ops listed=[]):∀j,j<xs.length->cO listed j:=by
 intro j;induction j using Nat.strongRecOn with
 |_ j ih=>
  intro hj;have hjo:j<ops.size:=by have:=p.len;simp_all
  cases hc:listed[j]with
  |true=>unfold cO;grind
  |false=>
   have:j∈Region.ready .any ops listed:=(zI hs).2 ⟨hjo,by grind,fun o ho d hd=>by
    have:=p.back j o (by simp_all) d hd;grind⟩
   simp_all
def RL {l:List Bool}:∀{i:Nat},l[i]?=some false->(l.set i true).count false+1=l.count false:=by
 grind
variable {raw:Nat->Bool} {Q:Exit->Act->World->Prop}
def ŭ (hcall:ez P G call)(p:qn call base ops.toList xs an σ F)(hx:Pw (YX P G raw N ops.toList) ops.toList xs):∀(bl:Nat) (listed:Array Bool) (st:St) (a:Act) (φ:List cI) (w:World) (S:Nat->Prop),listed.size=ops.size->listed.toList.count false<=bl->
  YJ ops.toList (cO listed)->Ĥ xs σ F (cO listed) st->oR G N a φ w S st->base<=st.hp.length->
  (∀a' w' φ' S',oR G N a' φ' w' S' (σ xs.length)->Fr (bC φ st.hp) S w (bC φ' (σ xs.length).hp) S' w'->(∀id,id<base->φ'[id]?=φ[id]?)->base<=(σ xs.length).hp.length->Q .normal a' w')->
  wpAny P .any ops Q bl listed a w:=by
 have mw:∀(listed:Array Bool) (st:St) (a:Act) (φ:List cI) (w:World) (S:Nat->Prop),Ĥ xs σ F (cO listed) st->oR G N a φ w S st->base<=st.hp.length->
   (∀a' w' φ' S',oR G N a' φ' w' S' (σ xs.length)->Fr (bC φ st.hp) S w (bC φ' (σ xs.length).hp) S' w'->(∀id,id<base->φ'[id]?=φ[id]?)->base<=(σ xs.length).hp.length->Q .normal a' w')->
   (∀j,j<xs.length->cO listed j)->Q .normal a w:=by
  intro listed st a φ w S inv rel hb hQ hall;obtain⟨h1,h2⟩:=inv.all hall;refine hQ a w φ S ⟨fun t=>by rw[<-h1 t];exact rel.tmr t,rel.gr,by rw[<-h2];exact rel.hr,rel.size,rel.defers⟩ ?_ (fun _ _=>rfl) (by rw[<-h2];exact hb)
  rw[<-h2];exact Fr.refl _ _ _
 intro bl;induction bl with
 |zero=>
  intro listed st a φ w S hs hc hd inv rel hb hQ;simp only[wpAny];have hno:∀j:Nat,listed[j]?≠some false:=by
   intro j hj;have hm:false∈listed.toList:=lξ (by simpa using hj);have:=List.count_pos_iff.2 hm;omega
  have hnil:Region.ready .any ops listed=[]:=by
   cases hr:Region.ready .any ops listed with
   |nil=>rfl
   |cons i r=>
    have:i∈Region.ready .any ops listed:=by rw[hr];simp
    exact absurd ((zI hs).1 this).2.1 (hno i)
  exact⟨hnil,mw listed st a φ w S inv rel hb hQ (CJ p hs hnil)⟩
 |succ bl ih=>
  intro listed st a φ w S hs hc hd inv rel hb hQ;simp only[wpAny];refine⟨fun hnil=>mw listed st a φ w S inv rel hb hQ (CJ p hs hnil),fun i hi=>?_⟩
  obtain⟨hio,hlf,hpr⟩:=(zI hs).1 hi;have ho:ops.toList[i]?=some ops[i]:=by simp[hio]
  obtain⟨x,hxi,hox⟩:=hx.get ho;have hni:¬cO listed i:=by unfold cO;rw[hlf];simp
  obtain⟨st',f',hev,inv'⟩:=p.more hd inv hxi hni (fun o ho' d hd'=>hpr o (by simpa using ho') d hd');have hli:i<listed.size:=by omega
  have hX:∀j,cO (listed.setIfInBounds i true) j↔(cO listed j\/j=i):=by
   intro j;unfold cO;rw[Array.getElem?_setIfInBounds];by_cases hij:i=j
   ·subst hij;simp[hli]
   ·simp[hij];intro e;exact absurd e.symm hij
  have hs':(listed.setIfInBounds i true).size=ops.size:=by simpa using hs
  have hc':(listed.setIfInBounds i true).toList.count false<=bl:=by
   have:=RL (l:=listed.toList) (i:=i) (by simpa using hlf);simp only[Array.toList_setIfInBounds];omega
  have hd':YJ ops.toList (cO (listed.setIfInBounds i true)):=by
   intro j o hj hXj d hdp;rw[hX]at hXj ⊢
   rcases hXj with h|rfl
   ·exact .inl (hd j o hj h d hdp)
   ·exact .inl (hpr o (by simpa using hj) d hdp)
  have hinv':Ĥ xs σ F (cO (listed.setIfInBounds i true)) st':=by
   have:cO (listed.setIfInBounds i true)=fun j=>cO listed j\/j=i:=by funext j;exact propext (hX j)
   rw[this];exact inv'
  have hop:ops[i]?=some ops[i]:=Array.getElem?_eq_getElem hio;simp only[wpOp,hop];unfold R4 at hev;split at hev
  ·simp at hev
  ·rename_i hgd;rw[if_pos (by rw[si rel.tmr hox hgd])];refine .inl (Ŋ hcall rel hox.op hox.dst hox.lt hb hev fun a' w' φ' S' rel' hf hφ=>?_);refine ih _ st' a' φ' w' S' hs' hc' hd' hinv' rel' (mψ hb (If hev)) fun a2 w2 φ2 S2 r1 r2 r3 r4=>hQ a2 w2 φ2 S2 r1 (hf.trans r2) (fun id hid=>(r3 id hid).trans (hφ id hid)) r4
  ·rename_i hgd;rw[if_neg (by rw[si rel.tmr hox hgd];simp)];have hdo:B7 (ops[i]).dst a:=fun t ht=>mω (hox.lt t ht) rel.size
   simp only[lα,lζ]at hev;obtain⟨rfl,rfl⟩:=hev;rw[hox.dst]at hinv';exact ih _ _ _ φ w S hs' hc' hd' hinv' (rel.skip hdo) hb hQ
variable {a:Act} {φ:List cI} {w:World} {S:Nat->Prop} {st:St}
def oR.drawn (h:oR G N a φ w S st)(n:Nat):oR G N a φ {w with drawn:=n} S st:=by
 have hst:eA S w {w with drawn:=n}:=fun _ _=>rfl
 exact⟨jR (Ext.refl φ) hst (fun _ h=>h) h.tmr,wZ hst (fun _ h=>h) h.gr,⟨h.hr.len,fun id l o h1 h2=>rn (Ext.refl φ) hst (fun _ h=>h) (fun _ _=>rfl) (h.hr.obj id l o h1 h2),h.hr.own,h.hr.one,h.hr.low⟩,h.size,h.defers⟩
def Nh (hcall:ez P G call)(hm:P.follows .mixedOrders=true){id:Nat}{nal k:Nat}{ps:List (Nat×Nat)}{stn:St}{m:Nat}(hx:Rx P G raw N ops.toList ops.toList 0=some (xs,k))(hed:ic ops.toList 0=true)(hps:mb xs (AL ops.toList []) (List.range xs.length)=some ps)(hev:rV call nal xs (some ps) st=some stn)(rel:oR G N a φ w S st)(hmm:m<=st.hp.length)(hQ:∀a' w',Later G N m φ w S st stn a' w'->Q .normal a' w'):(Code.region id ops true).wp P Q a w:=by
 have hpw:=Dy hx;simp only[rV]at hev;split at hev
 ·rename_i st2 fs hseq;obtain⟨hap,hev⟩:=iP hev;simp only[lα]at hev;subst hev;obtain⟨σ,F,hσ0,hσn,plan⟩:=Ċ hpw.1 hed hps hseq hap;have hlen:=rel.hr.len;have hres:=rel.hr.reserve nal;refine wp_region_any hm (ŭ hcall plan hpw ops.size _ (σ 0) a (φ++List.replicate nal .none) _ S (by simp) (by simp) (fun j o hj hX=>?_) ?_ (by rw[hσ0];exact(rel.reserve nal).drawn _) (by rw[hσ0];simp[iC]) fun a' w' φ' S' r1 r2 r3 r4=>hQ a' w' ?_)
  ·simp[cO]at hX;rw[Array.getElem?_replicate]at hX;split at hX<;>simp at hX
  ·have:cO (Array.replicate ops.size false)=fun _=>False:=by
    funext j
    unfold cO;rw[Array.getElem?_replicate];split<;>simp
   rw[this];exact plan.start
  ·rw[hσn]at r1 r2 r4;rw[hσ0]at r2;refine⟨φ',S',r1,?_,fun id hid=>by rw[r3 id (by omega),lι (by omega)],mψ hmm r4⟩
   refine Fr.trans (O1:=bC (φ++List.replicate nal .none) (grow st.hp (List.replicate nal .unborn))) (S1:=S) (w1:={w with drawn:=w.drawn+1}) ?_ r2;rw[iC];exact⟨fun _ _ _=>rfl,Nat.le_refl _,rfl,rfl,rfl,fun _ h=>h,fun _ h=> .inl h,fun b hb=> .inl (hres.2.1 b hb)⟩
 ·simp at hev
end
end
section
variable [Letters] [Mv]
section
variable {P:Program} {G:bY} {N m:Nat} {call:aG} {a:Act} {φ:List cI} {w:World} {S:Nat->Prop} {st st':St} {hp:List Ob}
def Later.refl (rel:oR G N a φ w S st)(hm:m<=st.hp.length):Later G N m φ w S st st a w:=⟨φ,S,rel,Fr.refl _ _ _,fun _ _=>rfl,hm⟩
variable {z:Nat}
def LC {cs:List D}{k i lo len:Nat}(h:b3 (cs.set k (.arr i lo len z))=true):b3 cs=true:=by
 unfold b3 at h ⊢
 rw[List.length_set]at h;rw[lγ]at h ⊢
 refine⟨h.1,?_⟩;have h2:=h.2;cases cs with
 |nil=>exact h2
 |cons d r=>
  cases k with
  |zero=>exact absurd h2 (by simp[pH])
  |succ k=>cases d<;>first|rfl|(rename_i x;cases x<;>exact h2)
def HR.push (hr:HR φ w S hp){l:cI}{o:Ob}(hob:OR (φ++[l]) w S l o)(hown:∀b,bS l o≠some b):HR (φ++[l]) w S (hp++[o])/\(∀b,bC (φ++[l]) (hp++[o]) b->bC φ hp b)/\Ext φ (φ++[l]):=by
 have hext:Ext φ (φ++[l]):=by
  intro id x hl _;have:id<φ.length:=by
   rcases mα id φ.length with h|h
   ·exact h
   ·simp[lπ h]at hl
  rw[lι this];exact hl
 have hat:∀{id:Nat} {x:cI} {y:Ob},(φ++[l])[id]?=some x->(hp++[o])[id]?=some y->(φ[id]?=some x/\hp[id]?=some y)\/(x=l/\y=o):=by
  intro id x y h1 h2;rcases mα id hp.length with h|h
  ·rw[lι h]at h2;rw[lι (by rw[hr.len];exact h)]at h1;exact .inl ⟨h1,h2⟩
  ·rw[lυ h]at h2;rw[lυ (by rw[hr.len];exact h),hr.len]at h1;cases hk:id - hp.length with
   |zero=>rw[hk]at h1 h2;simp at h1 h2;exact .inr ⟨h1.symm,h2.symm⟩
   |succ n=>rw[hk]at h1;simp at h1
 have hown':∀b,bC (φ++[l]) (hp++[o]) b->bC φ hp b:=by
  rintro b ⟨id,x,y,h1,h2,h3⟩
  rcases hat h1 h2 with⟨g1,g2⟩|⟨rfl,rfl⟩
  ·exact⟨id,x,y,g1,g2,h3⟩
  ·exact absurd h3 (hown b)
 refine⟨⟨by simp[hr.len],?_,fun b hb=>hr.own b (hown' b hb),?_,hr.low⟩,hown',hext⟩
 ·intro id x y h1 h2;rcases hat h1 h2 with⟨g1,g2⟩|⟨rfl,rfl⟩
  ·exact rn hext (fun _ _=>rfl) (fun _ h=>h) (fun _ _=>rfl) (hr.obj id x y g1 g2)
  ·exact hob
 ·intro id id' x x' y y' b h1 h2 h1' h2' h3 h3';rcases hat h1 h2 with⟨g1,g2⟩|⟨rfl,rfl⟩
  ·rcases hat h1' h2' with⟨g1',g2'⟩|⟨rfl,rfl⟩
   ·exact hr.one id id' x x' y y' b g1 g2 g1' g2' h3 h3'
   ·exact absurd h3' (hown b)
  ·exact absurd h3 (hown b)
def PH {d:D}{v:Value}(h:VR φ w S d v)(ho:SH d=true):∃ad,v= .slice ad 0 0:=by
 unfold SH at ho;split at ho
 ·obtain⟨ad,cap,us,rfl,h1,h2,_⟩:=h;simp only[gZ]at h2;simp_all
 ·obtain⟨ad,cap,us,rfl,h1,h2,h3,_⟩:=h;subst h3;simp only[gZ]at h2;simp_all
 ·grind
def Hw {ad:Option Addr}{id:Nat}(h:φ[id]?=some (.arr 0 0 0 z 0)):VR φ w S (.arr id 0 0 z) (.slice ad 0 0):=by
 simp only[VR];grind
def zH (hr:HR φ w S hp)(z:Nat):HR (φ++[.arr 0 0 0 z 0]) w S (hp++[.arr []])/\(∀b,bC (φ++[.arr 0 0 0 z 0]) (hp++[.arr []]) b->bC φ hp b)/\Ext φ (φ++[.arr 0 0 0 z 0]):=
 hr.push (by
  exact⟨rfl,Nat.le_refl _,fun h=>absurd h (Nat.lt_irrefl 0),[],Pw.nil,by intro i u hu;grind⟩) (by simp[bS])
def Hv {tm:Tm}{s:Nat}{d:D}(h:Tq φ w S tm a)(hd:VR φ w S d (a.tmps.getD s undef)):Tq φ w S (.cons s d tm) a:=by
 intro t;simp only[get];rw[beq_eq];by_cases hs:s=t
 ·simp_all
 ·simp only[hs,cond_false];exact h t
def Sf (rel:oR G N a φ w S st)(hm:m<=st.hp.length){n:Nat}{ws:LN}(live:LN):Later G N m φ w S st ⟨fB live (mapD (idx (cz st.hp n ws (List.range m)))) st.tm,bZ (cz st.hp n ws (List.range m)) st.hp⟩ a w:=by
 have hnd:=(eV (hp:=st.hp) n ws (List.range m) List.nodup_range).1;have hlen:=rel.hr.len;refine⟨jl (cz st.hp n ws (List.range m)) φ,S,⟨fun t=>?_,rel.gr,rel.hr.shrink hnd,rel.size,rel.defers⟩,(Fr.refl _ _ _).less fun b hb=>Pg rel.hr _ hb,fun id hid=>Cm (by omega) hid,?_⟩
 ·rw[y4];split
  ·exact yp (pm _ φ) _ (rel.tmr t)
  ·simp only[VR]
 ·obtain⟨r,hr⟩:=(eV (hp:=st.hp) n ws (List.range m) List.nodup_range).2;simp only[bZ,lβ];grind
def Md (rel:oR G N a φ w S st)(s off:Nat):∃v,VR φ w S (ghP st s off) v:=by
 unfold ghP;cases Nat.ble 1000 off
 ·exact⟨_,rel.tmr s⟩
 ·simp only[cond_true];split
  ·rename_i id o hs;have hvs:=rel.tmr s;rw[hs]at hvs;obtain⟨b,hb,_⟩:=hvs;split
   ·rename_i cs hcs;have hob:=dA hcs (by simp);obtain⟨vs0,t0,fz0,e1,e2,e3,e4,_⟩:=rel.hr.obj id _ _ hb hob;cases hd:cs[o]? with
    |none=>
     refine⟨undef,?_⟩;rw[mν,hd];simp only[Option.getD_none,VR]
    |some d=>
     obtain⟨v,hv1,hv2⟩:=e3.get hd;grind
   ·exact⟨undef,by simp only[VR]⟩
  ·exact⟨undef,by simp only[VR]⟩
def Ah (rel:oR G N a φ w S st)(hm:m<=st.hp.length){i b o cap n:Nat}{o0 o1:Ob}(hi:φ[i]?=some (.arr b o cap z n))(ho:aS st.hp i=o0)(hd:o0≠ .dead)(hor:OR φ w S (.arr b o cap z n) o0->OR φ w S (.arr b o cap z n) o1)(hown:bS (.arr b o cap z n) o1=bS (.arr b o cap z n) o0):Later G N m φ w S st ⟨st.tm,j7 st.hp i o1⟩ a w:=by
 have hob:=dA ho hd;have hphi:φ.set i (.arr b o cap z n)=φ:=dC hi;obtain⟨k1,k2,k3⟩:=rel.hr.one_step (S':=S) (w':=w) (l':= .arr b o cap z n) (o':=o1) hi hob (fun _=>rfl) (fun _ _ _=>rfl) (Nat.le_refl _) rfl rfl rfl (fun _ h=>h) (fun _ h=> .inl h) rel.hr.low (by
  rw[hphi];exact hor (rel.hr.obj i _ _ hi hob)) (by
  intro b' hb';rw[hown]at hb';have h:=rel.hr.own b' ⟨i,_,_,hi,hob,hb'⟩;exact⟨.inl hb',h.2,h.1⟩)
 rw[hphi]at k1 k2;exact⟨φ,S,⟨rel.tmr,rel.gr,by rw[bj];exact k1,rel.size,rel.defers⟩,by rw[bj];exact k2,fun _ _=>rfl,by rw[bj,List.length_set];exact hm⟩
def D4 {g:Gh}(h:fK m g st=some st')(rel:oR G N a φ w S st)(hm:m<=st.hp.length):Later G N m φ w S st st' a w:=by
 have hlen:=rel.hr.len;cases g with
 |own s z=>
  simp only[fK]at h;cases hc:SH (get st.tm s)with
  |false=>rw[hc]at h;simp at h;subst h;exact Later.refl rel hm
  |true=>
   rw[hc]at h;simp only[cond_true,lα]at h;subst h;obtain⟨h1,h2,h3⟩:=zH rel.hr z;obtain⟨ad,hv⟩:=PH (rel.tmr s) hc;refine⟨φ++[.arr 0 0 0 z 0],S,⟨Hv (jR h3 (fun _ _=>rfl) (fun _ h=>h) rel.tmr) ?_,rel.gr,h1,rel.size,rel.defers⟩,(Fr.refl _ _ _).less h2,fun id hid=>lι (by omega),by simp;omega⟩
   rw[hv];exact Hw (by rw[<-hlen];simp)
 |ownc s off z=>
  simp only[fK]at h;split at h
  ·rename_i id o hs;split at h
   ·rename_i cs hcs;split at h
    ·rename_i d hd;cases hc:SH d with
     |false=>rw[hc]at h;simp at h;subst h;exact Later.refl rel hm
     |true=>
      rw[hc]at h;simp only[cond_true,lα]at h;subst h;obtain⟨h1,h2,h3⟩:=zH rel.hr z;have hob:=dA hcs (by simp);obtain⟨v0,hvs⟩:=Md rel s off;rw[hs]at hvs;simp only[VR]at hvs;obtain⟨b,hb,_⟩:=hvs;have hidl:id<st.hp.length:=by
       rcases mα id st.hp.length with h|h
       ·exact h
       ·simp[lπ h]at hob
      have hob1:(st.hp++[Ob.arr []])[id]?=some (.box cs):=by rw[lι hidl];exact hob
      have hb1:(φ++[cI.arr 0 0 0 z 0])[id]?=some (.box b):=by rw[lι (by omega)];exact hb
      obtain⟨vs,t,fz,g1,g2,g3,g4,g5⟩:=h1.obj id _ _ hb1 hob1;obtain⟨v,hv1,hv2⟩:=g3.get hd;obtain⟨ad,hv⟩:=PH hv2 hc;have hphi:(φ++[cI.arr 0 0 0 z 0]).set id (.box b)=φ++[cI.arr 0 0 0 z 0]:=dC hb1;have hnew:(φ++[cI.arr 0 0 0 z 0])[st.hp.length]?=some (.arr 0 0 0 z 0):=by rw[<-hlen];simp
      have hown:=h1.own b ⟨id,_,_,hb1,hob1,rfl⟩;obtain⟨k1,k2,k3⟩:=h1.one_step (S':=S) (w':=w) (l':= .box b) (o':= .box (cs.set (o+Mc off) (.arr st.hp.length 0 0 z))) hb1 hob1 (fun _=>rfl) (fun _ _ _=>rfl) (Nat.le_refl _) rfl rfl rfl (fun _ h=>h) (fun _ h=> .inl h) h1.low (by
       rw[hphi];simp only[OR];refine⟨vs,t,fz,g1,g2,?_,g4,fun hh=>g5 (LC hh)⟩
       have:=g3.set (o+Mc off) (x:= .arr st.hp.length 0 0 z) (v:=v) (by rw[hv];exact Hw hnew);rwa [dC hv1]at this) (by
       intro b' hb';simp only[bS,lα]at hb';subst hb';exact⟨.inl rfl,hown.2,hown.1⟩)
      rw[hphi]at k1 k2;have he:j7 st.hp id (.box (cs.set (o+Mc off) (.arr st.hp.length 0 0 z)))++[Ob.arr []]=(st.hp++[Ob.arr []]).set id (.box (cs.set (o+Mc off) (.arr st.hp.length 0 0 z))):=by
       rw[bj,List.set_append_left _ _ hidl]
      refine⟨φ++[.arr 0 0 0 z 0],S,⟨jR h3 (fun _ _=>rfl) (fun _ h=>h) rel.tmr,rel.gr,by rw[he];exact k1,rel.size,rel.defers⟩,?_,fun id hid=>lι (by omega),by simp[bj];omega⟩
      rw[he];exact Fr.trans ((Fr.refl _ _ _).less h2) k2
    ·simp at h
   ·simp at h
  ·simp at h
 |frz s=>
  simp only[fK]at h;split at h
  ·rename_i x hx;simp only[lα]at h;subst h;have hz:((dids (get st.tm s)).map fun i=>(i,aS st.hp i))=(dids (get st.tm s)).zip ((dids (get st.tm s)).map (aS st.hp)):=(tU (aS st.hp) _).symm;rw[hz]at hx ⊢
   obtain⟨h1,h2⟩:=rel.hr.freeze (dids (get st.tm s));have hv:=ne rel.hr (S':=GW φ S st.hp (dids (get st.tm s))) (fun _ h=> .inl h) nE _ hx (rel.tmr s);refine⟨φ,_,⟨Hv (jR (Ext.refl φ) (fun _ _=>rfl) (fun _ h=> .inl h) rel.tmr) (by simp only[VR];exact hv),wZ (fun _ _=>rfl) (fun _ h=> .inl h) rel.gr,h1,rel.size,rel.defers⟩,h2,fun _ _=>rfl,by rw[bP];exact hm⟩
  ·simp at h
 |frzc s off=>
  simp only[fK]at h;split at h
  ·rename_i id o hs;split at h
   ·rename_i cs hcs;split at h
    ·rename_i d hd;cases hc:(dids d).contains id with
     |true=>rw[hc]at h;simp at h
     |false=>
      rw[hc]at h;simp only[cond_false]at h;split at h
      ·rename_i x hx;cases hbt:(b3 (cs.set (o+Mc off) (.p x))&&!b3 cs)with
       |true=>rw[hbt]at h;simp at h
       |false=>
       simp only[hbt,cond_false,lα]at h;subst h;have hb3:b3 (cs.set (o+Mc off) (.p x))=true->b3 cs=true:=fun hh=>by rw[hh]at hbt;simpa using hbt
       have hni:id∉dids d:=by simpa using hc
       have hz:((dids d).map fun i=>(i,aS st.hp i))=(dids d).zip ((dids d).map (aS st.hp)):=(tU (aS st.hp) _).symm;rw[hz]at hx ⊢
       obtain⟨h1,h2⟩:=rel.hr.freeze (dids d);have hob:=dA hcs (by simp);obtain⟨v0,hvs⟩:=Md rel s off;rw[hs]at hvs;simp only[VR]at hvs;obtain⟨b,hb,_⟩:=hvs;obtain⟨vs0,t0,fz0,e1,e2,e3,e4,_⟩:=rel.hr.obj id _ _ hb hob;obtain⟨v,hv1,hv2⟩:=e3.get hd;have hv:=ne rel.hr (S':=GW φ S st.hp (dids d)) (fun _ h=> .inl h) nE _ hx hv2;have hob1:(ao st.hp (dn ((dids d).zip ((dids d).map (aS st.hp)))))[id]?=some (.box cs):=by
        rw[yZ,fF,if_neg (fun h=>hni h.1)];exact hob
       obtain⟨vs,t,fz,g1,g2,g3,g4,g5⟩:=h1.obj id _ _ hb hob1;have hvv:vs=vs0:=by
        rw[e1]at g1;simp at g1;exact g1.1.symm
       subst hvv;have hphi:φ.set id (.box b)=φ:=dC hb;have hown:=h1.own b ⟨id,_,_,hb,hob1,rfl⟩;obtain⟨k1,k2,k3⟩:=h1.one_step (S':=GW φ S st.hp (dids d)) (w':=w) (l':= .box b) (o':= .box (cs.set (o+Mc off) (.p x))) hb hob1 (fun _=>rfl) (fun _ _ _=>rfl) (Nat.le_refl _) rfl rfl rfl (fun _ h=>h) (fun _ h=> .inl h) h1.low (by
        rw[hphi];simp only[OR];refine⟨vs,t,fz,g1,g2,?_,g4,fun hh=>g5 (hb3 hh)⟩
        have:=g3.set (o+Mc off) (x:= .p x) (v:=v) (by simp only[VR];exact hv);rwa [dC hv1]at this) (by
        intro b' hb';simp only[bS,lα]at hb';subst hb';exact⟨.inl rfl,hown.2,hown.1⟩)
       rw[hphi]at k1 k2;refine⟨φ,GW φ S st.hp (dids d),⟨jR (Ext.refl φ) (fun _ _=>rfl) (fun _ h=> .inl h) rel.tmr,wZ (fun _ _=>rfl) (fun _ h=> .inl h) rel.gr,by rw[bj];exact k1,rel.size,rel.defers⟩,?_,fun _ _=>rfl,by rw[bj,List.length_set,bP];exact hm⟩
       rw[bj];exact Fr.trans h2 k2
      ·simp at h
    ·simp at h
   ·simp at h
  ·simp at h
 |tog s off=>
  simp only[fK]at h;split at h
  ·rename_i id o hs;split at h
   ·rename_i cs hcs;split at h
    ·rename_i i lo len z hd;have hob:=dA hcs (by simp);obtain⟨v0,hvs⟩:=Md rel s off;rw[hs]at hvs;simp only[VR]at hvs;obtain⟨b,hb,_⟩:=hvs;obtain⟨vs,t,fz,g1,g2,g3,g4,g5⟩:=rel.hr.obj id _ _ hb hob;obtain⟨v,hv1,hv2⟩:=g3.get hd;simp only[VR]at hv2;obtain⟨b2,o2,cap,n,ad,hi,_⟩:=hv2;split at h
     ·rename_i es ho;simp only[lα]at h;subst h;exact Ah rel hm hi ho (by simp) (fun hh=>by simpa only[OR]using hh) rfl
     ·rename_i es ho;simp only[lα]at h;subst h;exact Ah rel hm hi ho (by simp) (fun hh=>by simpa only[OR]using hh) rfl
     ·rename_i c es ho;cases c with
      |true=>simp at h
      |false=>
       simp only[cond_false,lα]at h;subst h;exact Ah rel hm hi ho (by simp) (fun hh=>by simpa only[OR]using hh) rfl
     ·simp at h
    ·simp at h
   ·simp at h
  ·simp at h
 |pst s off=>
  simp only[fK,lα]at h;subst h;exact Later.refl rel hm
 |pkp live=>
  simp only[fK,lα]at h;subst h;exact Later.refl rel hm
 |keep live=>
  simp only[fK,lα]at h;subst h;exact Sf rel hm live
def Later.bind {φ1:List cI}{S1:Nat->Prop}{w1:World}{st1 st2:St}{a2:Act}{w2:World}(hf:Fr (bC φ st.hp) S w (bC φ1 st1.hp) S1 w1)(hφ:∀id,id<m->φ1[id]?=φ[id]?)(h:Later G N m φ1 w1 S1 st1 st2 a2 w2):Later G N m φ w S st st2 a2 w2:=by
 obtain⟨φ2,S2,r1,r2,r3,r4⟩:=h;exact⟨φ2,S2,r1,hf.trans r2,fun id hid=>(r3 id hid).trans (hφ id hid),r4⟩
def Ay (ex:Ex):Exit->Prop
 | .normal=>ex= .norm
 | .exit i=>ex= .exit i
 | .ret=>ex= .ret
 |_=>False
def Post (G:bY)(N m:Nat)(φ:List cI)(w:World)(S:Nat->Prop)(st:St)(r:Ex×St)(e:Exit)(a':Act)(w':World):Prop:=Ay r.1 e/\Later G N m φ w S st r.2 a' w'
def Post.bind {φ1:List cI}{S1:Nat->Prop}{w1:World}{st1:St}{r:Ex×St}{e:Exit}{a2:Act}{w2:World}(hf:Fr (bC φ st.hp) S w (bC φ1 st1.hp) S1 w1)(hφ:∀id,id<m->φ1[id]?=φ[id]?)(h:Post G N m φ1 w1 S1 st1 r e a2 w2):Post G N m φ w S st r e a2 w2:=
 ⟨h.1,h.2.bind hf hφ⟩
def F4 {c:Code}{Q:Exit->Act->World->Prop}(I:Nat->Act->World->Prop)(zero:∀a w,¬I 0 a w)(round:∀n a w,I (n+1) a w->c.wp P (Exit.then (I n) Q) a w){n:Nat}(h₀:I n a w):(Code.loop c).wp P Q a w:=by
 intro b k cs;have key:∀n a w,I n a w->∃e a' w',Q e a' w'/\Arrives P (lone (b.at a (.code c:: .inLoop c::k)) cs w) b k cs e a' w':=by
  intro n;induction n with
  |zero=>simp_all
  |succ n ih=>
   intro a w hI;obtain⟨e,a₁,w₁,hq,harr⟩:=round n a w hI b (.inLoop c::k) cs;cases e with
   |normal=>
    obtain⟨e₂,a₂,w₂,hq₂,harr₂⟩:=ih a₁ w₁ hq;exact⟨e₂,a₂,w₂,hq₂,.of_steps (Steps.trans harr (.one step_inLoop)) harr₂⟩
   |exit id=>exact⟨_,a₁,w₁,hq,.pass (x:= .inLoop c) rfl (fun _ _=> .inl (by simp)) harr⟩
   |goto l=>exact⟨_,a₁,w₁,hq,.pass (x:= .inLoop c) rfl (fun _ _=> .inl (by simp)) harr⟩
   |ret=>exact⟨_,a₁,w₁,hq,.pass (x:= .inLoop c) rfl (fun _ _=> .inl (by simp)) harr⟩
   |panic ch=>exact⟨_,a₁,w₁,hq,.pass (x:= .inLoop c) rfl (fun _ _=> .inl (by simp)) harr⟩
   |outgrown=>exact⟨_,a₁,w₁,hq,.pass (x:= .inLoop c) rfl (fun _ _=> .inl (by simp)) harr⟩
 obtain⟨e,a',w',hq,harr⟩:=key n a w h₀;exact⟨e,a',w',hq,.of_steps (.one step_loop) harr⟩
end
end
section
variable [Letters] [Mv]
section
variable {P:Program} {G:bY} {raw:Nat->Bool} {N m:Nat} {call:aG} {a:Act} {φ:List cI} {w:World} {S:Nat->Prop} {st st':St} {hp:List Ob}
def CV (P:Program)(G:bY)(raw:Nat->Bool)(N:Nat)(c:Code):Co->Prop
 | .skip=>c= .skip
 | .reg nal xs ps _=>(∃id ops draw,c= .region id ops draw/\LH P G raw N ops.toList draw=some (.reg nal xs ps []))\/(nal=0/\xs=[⟨none,.pan,[],0,none⟩]/\ps=none)
 | .seq x y=>∃a b,c= .seq a b/\Dw P G raw N a=some x/\Dw P G raw N b=some y
 | .cond z x y=>∃o a b,c= .cond o a b/\cA P G 0 o=some z/\Dw P G raw N a=some x/\Dw P G raw N b=some y
 | .block id x=>∃a,c= .block id a/\Dw P G raw N a=some x
 | .loop _ x=>∃a,c= .loop a/\Dw P G raw N a=some x
 | .exit id=>c= .exit id
 | .ret=>c= .ret
 | .gh _ _=>False
def nY {c:Code}{k:Co}(h:Dw P G raw N c=some k):CV P G raw N c k:=by
 cases c<;>simp only[Dw]at h;case skip=>simp at h;subst h;rfl
 case region id ops draw=>
  have h0:=h;unfold LH at h;split at h
  ·simp at h
  ·cases draw with
   |false=>
    simp at h;subst h;exact .inl ⟨id,ops,false,rfl,h0⟩
   |true=>
    obtain⟨_,h⟩:=iP h;split at h
    ·simp at h;subst h;exact .inl ⟨id,ops,true,rfl,h0⟩
    ·simp at h
 case seq a b=>
  split at h
  ·rename_i x y hx hy;simp at h;subst h;exact⟨a,b,rfl,hx,hy⟩
  ·simp at h
 case cond o a b=>
  split at h
  ·rename_i z x y hz hx hy;simp at h;subst h;exact⟨o,a,b,rfl,hz,hx,hy⟩
  ·simp at h
 case block id b=>
  split at h
  ·rename_i x hx;simp at h;subst h;exact⟨b,rfl,hx⟩
  ·simp at h
 case loop b=>
  split at h
  ·rename_i x hx;simp at h;subst h;exact⟨b,rfl,hx⟩
  ·simp at h
 case exit id=>simp at h;subst h;rfl
 case ret=>simp at h;subst h;rfl
 case refuse y=>simp at h;subst h;exact .inr ⟨rfl,rfl,rfl⟩
 all_goals simp at h
def aaq (hcall:ez P G call)(hm:P.follows .mixedOrders=true){bl:Nat}:∀(k:Co) {c:Code} {st:St} {r:Ex×St} {a:Act} {φ:List cI} {w:World} {S:Nat->Prop},Dw P G raw N c=some (er k)->cm call bl m k st=some r->oR G N a φ w S st->m<=st.hp.length->c.wp P (Post G N m φ w S st r) a w:=by
 intro k;induction k with
 |skip=>
  intro c st r a φ w S hc hev rel hmm;have:=nY hc;simp only[er,CV]at this;subst this;simp only[cm,lα]at hev;subst hev;exact wp_skip ⟨rfl,Later.refl rel hmm⟩
 |reg nal xs ps out=>
  intro c st r a φ w S hc hev rel hmm;have:=nY hc;simp only[er,CV]at this;have this:∃id ops draw,c= .region id ops draw/\LH P G raw N ops.toList draw=some (.reg nal xs ps []):=by
   rcases this with h|⟨rfl,rfl,rfl⟩
   ·exact h
   ·simp only[cm]at hev;have:rV call 0 [⟨none,.pan,[],0,none⟩] none st=none:=rfl;rw[this]at hev;cases hev
  obtain⟨rid,ops,draw,rfl,hreg⟩:=this;simp only[cm]at hev;split at hev
  ·rename_i st1 hst1;simp only[lα]at hev;subst hev;have mw:∀a' w',Later G N m φ w S st st1 a' w'->Post G N m φ w S st (.norm,⟨fB out id st1.tm,st1.hp⟩) .normal a' w':=by
    rintro a' w' ⟨φ',S',r1,r2,r3,r4⟩
    refine⟨rfl,φ',S',⟨fun t=>?_,r1.gr,r1.hr,r1.size,r1.defers⟩,r2,r3,r4⟩
    simp only[y4];split
    ·exact r1.tmr t
    ·simp only[VR]
   unfold LH at hreg;split at hreg
   ·simp at hreg
   ·rename_i ys n hx;cases draw with
    |false=>
     simp only[cond_false,lα,Co.reg.injEq]at hreg;obtain⟨rfl,rfl,rfl,_⟩:=hreg;exact C_ hcall hx hst1 rel hmm mw
    |true=>
     simp only[cond_true]at hreg;obtain⟨hed,hreg⟩:=iP hreg;split at hreg
     ·rename_i ps' hps;simp only[lα,Co.reg.injEq]at hreg;obtain⟨rfl,rfl,rfl,_⟩:=hreg;exact Nh hcall hm hx hed hps hst1 rel hmm mw
     ·simp at hreg
  ·simp at hev
 |seq x y ihx ihy=>
  intro c st r a φ w S hc hev rel hmm;have:=nY hc;simp only[er,CV]at this;obtain⟨cx,cy,rfl,hx,hy⟩:=this;simp only[cm]at hev;refine wp_seq ?_;split at hev
  ·rename_i st1 hst1;refine wp_mono (ihx hx hst1 rel hmm) ?_;rintro e a1 w1 ⟨h1,φ1,S1,r1,r2,r3,r4⟩;cases e<;>simp only[Ay,reduceCtorEq]at h1;exact wp_mono (ihy hy hev r1 r4) fun e a2 w2 h=>h.bind r2 r3
  ·rename_i hne;refine wp_mono (ihx hx hev rel hmm) ?_;rintro e a1 w1 ⟨h1,h2⟩;cases e with
   |normal=>
    exfalso;simp only[Ay]at h1;obtain⟨ex,s1⟩:=r;simp only at h1;subst h1;exact hne s1 hev
   |exit i=>exact⟨h1,h2⟩
   |ret=>exact⟨h1,h2⟩
   |goto l=>exact h1.elim
   |panic ch=>exact h1.elim
   |outgrown=>exact h1.elim
 |cond z x y ihx ihy=>
  intro c st r a φ w S hc hev rel hmm;have:=nY hc;simp only[er,CV]at this;obtain⟨o,cx,cy,rfl,hz,hx,hy⟩:=this;have hv:=bc rel.tmr rel.gr hz;simp only[cm]at hev;split at hev
  ·rename_i b hb;rw[hb]at hv;simp only[VR,PR]at hv;cases b with
   |true=>exact wp_cond_true hv (ihx hx hev rel hmm)
   |false=>exact wp_cond_false hv (ihy hy hev rel hmm)
  ·simp at hev
 |block id x ihx=>
  intro c st r a φ w S hc hev rel hmm;have:=nY hc;simp only[er,CV]at this;obtain⟨cx,rfl,hx⟩:=this;simp only[cm]at hev;refine wp_block ?_;split at hev
  ·rename_i i st1 hst1;refine wp_mono (ihx hx hst1 rel hmm) ?_;rintro e a1 w1 ⟨h1,h2⟩;rw[beq_eq]at hev;cases e with
   |exit j=>
    simp only[Ay,Ex.exit.injEq]at h1;subst h1;by_cases hij:i=id
    ·simp only[hij,decide_true,cond_true,lα]at hev;subst hev;simp only[Exit.inBlock,hij,if_true];exact⟨rfl,h2⟩
    ·simp only[hij,decide_false,cond_false,lα]at hev;subst hev;simp only[Exit.inBlock,if_neg hij];exact⟨rfl,h2⟩
   |normal=>simp[Ay]at h1
   |ret=>simp[Ay]at h1
   |goto l=>exact h1.elim
   |panic ch=>exact h1.elim
   |outgrown=>exact h1.elim
  ·rename_i hne;refine wp_mono (ihx hx hev rel hmm) ?_;rintro e a1 w1 ⟨h1,h2⟩;cases e with
   |exit j=>
    exfalso;simp only[Ay]at h1;obtain⟨ex,s1⟩:=r;simp only at h1;subst h1;exact hne j s1 hev
   |normal=>exact⟨h1,h2⟩
   |ret=>exact⟨h1,h2⟩
   |goto l=>exact h1.elim
   |panic ch=>exact h1.elim
   |outgrown=>exact h1.elim
 |loop live x ihx=>
  intro c st r a φ w S hc hev rel hmm;have:=nY hc;simp only[er,CV]at this;obtain⟨cx,rfl,hx⟩:=this;simp only[cm]at hev;refine F4 (fun n a1 w1=>∃st1,uI m (cm call bl m x) live n st1=some r/\∃φ1 S1,oR G N a1 φ1 w1 S1 st1/\Fr (bC φ st.hp) S w (bC φ1 st1.hp) S1 w1/\(∀id,id<m->φ1[id]?=φ[id]?)/\m<=st1.hp.length) ?_ ?_ (n:=bl) ⟨st,hev,φ,S,rel,Fr.refl _ _ _,fun _ _=>rfl,hmm⟩
  ·rintro a1 w1 ⟨st1,h,_⟩
   simp[uI]at h
  ·rintro n a1 w1 ⟨st1,h,φ1,S1,r1,r2,r3,r4⟩
   simp only[uI]at h;split at h
   ·simp at h
   ·rename_i st2 hst2;obtain⟨φ2,S2,q1,q2,q3,q4⟩:=D4 hst2 r1 r4;split at h
    ·rename_i st3 hst3;refine wp_mono (ihx hx hst3 q1 q4) ?_;rintro e a3 w3 ⟨h1,φ3,S3,p1,p2,p3,p4⟩;cases e<;>simp only[Ay,reduceCtorEq]at h1;exact⟨st3,h,φ3,S3,p1,(r2.trans q2).trans p2,fun id hid=>((p3 id hid).trans (q3 id hid)).trans (r3 id hid),p4⟩
    ·rename_i hne;refine wp_mono (ihx hx h q1 q4) ?_;rintro e a3 w3 ⟨h1,h2⟩;have hb:=h2.bind (r2.trans q2) (fun id hid=>(q3 id hid).trans (r3 id hid));cases e with
     |normal=>
      exfalso;simp only[Ay]at h1;obtain⟨ex,s1⟩:=r;simp only at h1;subst h1;exact hne s1 h
     |exit i=>exact⟨h1,hb⟩
     |ret=>exact⟨h1,hb⟩
     |goto l=>exact h1.elim
     |panic ch=>exact h1.elim
     |outgrown=>exact h1.elim
 |exit id=>
  intro c st r a φ w S hc hev rel hmm;have:=nY hc;simp only[er,CV]at this;subst this;simp only[cm,lα]at hev;subst hev;exact wp_exit ⟨rfl,Later.refl rel hmm⟩
 |ret=>
  intro c st r a φ w S hc hev rel hmm;have:=nY hc;simp only[er,CV]at this;subst this;simp only[cm,lα]at hev;subst hev;exact wp_ret ⟨rfl,Later.refl rel hmm⟩
 |gh g x ihx=>
  intro c st r a φ w S hc hev rel hmm;simp only[er]at hc;simp only[cm]at hev;split at hev
  ·rename_i st1 hst1;obtain⟨φ1,S1,r1,r2,r3,r4⟩:=D4 hst1 rel hmm;cases hg:SJ g with
   |some g'=>
    simp only[Fi,hg]at hev;split at hev
    ·rename_i ex st2 hev2;split at hev
     ·rename_i st3 hst3;simp only[lα]at hev;subst hev;refine wp_mono (ihx hc hev2 r1 r4) fun e a2 w2 h=>?_
      obtain⟨h1,φ2,S2,q1,q2,q3,q4⟩:=h;obtain⟨φ3,S3,p1,p2,p3,p4⟩:=D4 hst3 q1 q4;exact Post.bind (r:=(ex,st3)) r2 r3 ⟨h1,φ3,S3,p1,q2.trans p2,fun id hid=>(p3 id hid).trans (q3 id hid),p4⟩
     ·simp at hev
    ·simp at hev
   |none=>
    simp only[Fi,hg]at hev;exact wp_mono (ihx hc hev r1 r4) fun e a2 w2 h=>h.bind r2 r3
  ·simp at hev
end
end
section
variable [Letters]
section
variable {P:Program} {G:bY} {raw:Nat->Bool} {N m:Nat} {call:aG} {a:Act} {φ:List cI} {w:World} {S:Nat->Prop} {st st':St} {hp:List Ob}
def aco:∀(ds:List D) (n t:Nat),get (eR ds n) t=if n<=t then ds.getD (t - n) .junk else .junk
 |[],n,t=>by simp[eR,get]
 |d::r,n,t=>by
  simp only[eR,get];rw[beq_eq,aco r (n+1) t];grind
variable {ds:List D} {vs:List Value}
def R0 (h:Pw (VR φ w S) ds vs)(k:Nat):Tq φ w S (eR ds 0) {tmps:=vs.toArray++Array.replicate k undef,defers:=[]}:=by
 intro t;rw[aco];simp only[Nat.zero_le,if_true,Nat.sub_zero];rw[mν];cases hd:ds[t]? with
 |none=>simp only[Option.getD_none,VR]
 |some d=>
  obtain⟨v,hv,hr⟩:=h.get hd;have hlt:t<vs.length:=by
   grind
  rw[Array.getD_eq_getD_getElem?,Array.getElem?_append_left (by omega)];simp_all
def G_ (rel:oR G N a φ w S st){r0:ResultVar}{r:Rv}{d:D}(hr:cRv P r0=some r)(h:Ig st r=some d):
  ∃v,(match r0 with| .tmp t=>(pure (a.tmps.getD t undef):Sem Value)| .cell x t=>do loadVar t (<-asAddr (a.tmps.getD x undef))).run P w= .ok v w/\VR φ w S d v:=by
 cases r0 with
 |tmp t=>
  simp only[cRv,lα]at hr;subst hr;simp only[Ig,lα]at h;subst h;exact⟨_,rfl,rel.tmr t⟩
 |cell x t=>
  simp only[cRv]at hr;split at hr
  ·rename_i y hy;simp at hr;subst hr;have ht:=dD hy;simp only[Ig]at h;split at h
   ·rename_i id off hb;split at h
    ·rename_i cs hcs;split at h
     ·rename_i ds hds;have hob:=dA hcs (by simp);have hv:=rel.tmr x;rw[hb]at hv;obtain⟨b,hbb,hv⟩:=hv;obtain⟨vs,t',fz,h1,h2,h3,h4,_⟩:=rel.hr.obj id _ _ hbb hob;obtain⟨hl,rfl⟩:=FZ hds;obtain⟨v,e1,e2⟩:=qR ht (b:=b) (o:=off) ((h3.drop off).take y.size) (w5 h4) (by have:=h3.1;grind)
       (fun j c hj=>by
        have:=pp hj;simp only[World.cell?,h1];simp_all) h
      refine⟨v,?_,e2⟩;simp only[hv,asAddr,Sem.run_bind,Sem.run_pure,Result.andThen_ok,e1]
     ·simp at h
    ·simp at h
   ·simp at h
  ·grind
def PO (rel:oR G N a φ w S st):∀{l:List ResultVar} {rs:List Rv} {ds:List D},Ry P l=some rs->jW st rs=some ds->
  ∃vs:List Value,(l.mapM fun(r:ResultVar)=>(match r with| .tmp t=>(pure (a.tmps.getD t undef):Sem Value)| .cell x t=>do loadVar t (<-asAddr (a.tmps.getD x undef)))).run P w= .ok vs w/\Pw (VR φ w S) ds vs
 |[],rs,ds,hr,h=>by
  simp only[Ry,lα]at hr;subst hr;simp only[jW,lα]at h;subst h;exact⟨[],rfl,Pw.nil⟩
 |r::l,rs,ds,hr,h=>by
  simp only[Ry]at hr;split at hr
  ·rename_i x xs hx hxs;simp at hr;subst hr;simp only[jW]at h;split at h
   ·rename_i d hd;split at h
    ·rename_i es hes;simp at h;subst h;obtain⟨v,h1,h2⟩:=G_ (P:=P) rel hx hd;obtain⟨vs,h3,h4⟩:=PO rel hxs hes;refine⟨v::vs,?_,Pw.cons h2 h4⟩;simp_all
    ·simp at h
   ·simp at h
  ·grind
variable {fn:Func}
def J6 {tmps:Array Value}{us:List Value}(h:(fn.results.toList.mapM fun(r:ResultVar)=>(match r with| .tmp t=>(pure (tmps.getD t undef):Sem Value)| .cell x t=>do loadVar t (<-asAddr (tmps.getD x undef)))).run P w= .ok us w):
  (results fn tmps).run P w= .ok (if hh:us.toArray.size=1 then us.toArray[0]else .tuple us.toArray) w:=by
 have e:results fn tmps=(do
   let vs <-fn.results.mapM fun(r:ResultVar)=>(match r with| .tmp t=>(pure (tmps.getD t undef):Sem Value)| .cell x t=>do loadVar t (<-asAddr (tmps.getD x undef)))
   pure (if h:vs.size=1 then vs[0]else .tuple vs)):=by
  rfl
 rw[e,Array.mapM_eq_mapM_toList];simp_all
def u_ (h:Pw (VR φ w S) ds vs):VR φ w S (one ds) (if hh:vs.toArray.size=1 then vs.toArray[0]else .tuple vs.toArray):=by
 have hlen:=h.1;unfold one;split
 ·obtain⟨v,r,rfl,h1,h2⟩:=h.cons_inv;simp_all
 ·have:vs.toArray.size≠1:=by
   intro hs;match ds,hlen with
   |[],hl=>simp_all
   |[d],_=>simp_all
   |_::_::_,hl=>simp_all
  rw[dif_neg this];exact⟨_,rfl,VRs_iff.2 (by omega)⟩
def Ma:∀{ds:List D} {vs:List Value} {hp:List Ob} {S:Nat->Prop},HR φ w S hp->Pw (VR φ w S) ds vs->∃S',HR φ w S' (rZ hp ds).2/\Pw (VR φ w S') (rZ hp ds).1 vs/\Fr (bC φ hp) S w (bC φ (rZ hp ds).2) S' w/\(rZ hp ds).2.length=hp.length
 |[],vs,hp,S,hr,h=>⟨S,hr,by obtain rfl:=h.nil_inv;exact Pw.nil,Fr.refl _ _ _,rfl⟩
 |d::r,vs,hp,S,hr,h=>by
  obtain⟨v,us,rfl,h1,h2⟩:=h.cons_inv;simp only[rZ];split
  ·rename_i x hx;have hz:((dids d).map fun i=>(i,aS hp i))=(dids d).zip ((dids d).map (aS hp)):=(tU (aS hp) _).symm;rw[hz]at hx ⊢
   obtain⟨k1,k2⟩:=hr.freeze (dids d);have hv:=ne hr (S':=GW φ S hp (dids d)) (fun _ h=> .inl h) nE _ hx h1;obtain⟨S',q1,q2,q3,q4⟩:=Ma k1 (h2.mono fun _ _ hh=>iz (Ext.refl φ) (fun _ _=>rfl) (fun _ h=> .inl h) _ hh);refine⟨S',q1,Pw.cons ?_ q2,k2.trans q3,by rw[q4,bP]⟩
   exact bz (fun _ _=>rfl) q3.sub _ hv
  ·obtain⟨S',q1,q2,q3,q4⟩:=Ma hr h2;exact⟨S',q1,Pw.cons (iz (Ext.refl φ) (fun _ _=>rfl) q3.sub _ (Pz h1)) q2,q3,q4⟩
def ϫ (hr:HR φ w S hp)(h:Pw (VR φ w S) ds vs)(hm:m<=hp.length)(fz:Bool):
  ∃φ' S',VR φ' w S' (mw m fz ds hp).1 (if hh:vs.toArray.size=1 then vs.toArray[0]else .tuple vs.toArray)/\HR φ' w S' (mw m fz ds hp).2/\Fr (bC φ hp) S w (bC φ' (mw m fz ds hp).2) S' w/\∀id,id<m->φ'[id]?=φ[id]?:=by
 have key:∀(ds:List D) (hp:List Ob) (S:Nat->Prop),HR φ w S hp->Pw (VR φ w S) ds vs->m<=hp.length->∀ids,ids=cz hp br (dids.didsL ds++(hp.take m).flatMap iS) (List.range m)->
   ∃φ',VR φ' w S (mapD (idx ids) (one ds)) (if hh:vs.toArray.size=1 then vs.toArray[0]else .tuple vs.toArray)/\HR φ' w S (bZ ids hp)/\Fr (bC φ hp) S w (bC φ' (bZ ids hp)) S w/\∀id,id<m->φ'[id]?=φ[id]?:=by
  rintro ds hp S hr h hm ids rfl
  have hnd:=(eV (hp:=hp) br (dids.didsL ds++(hp.take m).flatMap iS) (List.range m) List.nodup_range).1;exact⟨_,yp (pm _ φ) _ (u_ h),hr.shrink hnd,(Fr.refl _ _ _).less fun b hb=>Pg hr _ hb,fun id hid=>Cm (by rw[hr.len];exact hm) hid⟩
 unfold mw;cases fz with
 |false=>
  simp only[cond_false];obtain⟨φ',h1,h2,h3,h4⟩:=key ds hp S hr h hm _ rfl;exact⟨φ',S,h1,h2,h3,h4⟩
 |true=>
  simp only[cond_true];obtain⟨S',q1,q2,q3,q4⟩:=Ma hr h;obtain⟨φ',h1,h2,h3,h4⟩:=key _ _ S' q1 q2 (by rw[q4];exact hm) _ rfl;exact⟨φ',S',h1,h2,q3.trans h3,h4⟩
variable {f:Nat} {out:List Ob}
def WZ [Mv](hmm:m<=hp.length)(hcall:ez P G call)(hmix:P.follows .mixedOrders=true){bl:Nat}{x:Fx}(hf:P.funcs[f]?=some fn)(hx:AR P G raw fn x){r:D}(hev:oG m call bl x ds hp=some (r,out))(hr:HR φ w S hp)(hg:GR G w S)(hv:Pw (VR φ w S) ds vs):Calls P f vs.toArray w (RetOk φ hp w S r out m):=by
 obtain⟨hb,hres⟩:=hx;cases hbody:fn.body with
 |none=>rw[hbody]at hb;simp at hb
 |some c=>
  rw[hbody]at hb;simp only at hb;have rel:oR G fn.ntmps {tmps:=vs.toArray++Array.replicate (fn.ntmps - vs.toArray.size) undef,defers:=[]} φ w S ⟨eR ds 0,hp⟩:=⟨R0 hv _,hg,hr,by simp;omega,rfl⟩
  have mw:∀{ex:Ex} {st1:St} {es:List D},cm call bl m x.body ⟨eR ds 0,hp⟩=some (ex,st1)->(ex= .norm\/ex= .ret)->jW st1 x.res=some es->(r,out)=mw m x.fz es st1.hp->Calls P f vs.toArray w (RetOk φ hp w S r out m):=by
   intro ex st1 es h1 hex h2 h3;refine calls_of_wp hf hbody (wp_mono (aaq (m:=m) hcall hmix x.body hb h1 rel hmm) ?_);rintro e a1 w1 ⟨he,φ1,S1,r1,r2,r3,r4⟩;have fin2:a1.defers=[]/\∃v,(results fn a1.tmps).run P w1= .ok v w1/\RetOk φ hp w S r out m (.returned v) w1:=by
    refine⟨r1.defers,?_⟩;obtain⟨us,g1,g2⟩:=PO (P:=P) r1 hres h2;obtain⟨φ2,S2,q1,q2,q3,q4⟩:=ϫ r1.hr g2 r4 x.fz;rw[<-h3]at q1 q2 q3;refine⟨_,?_,φ2,S2,q1,q2,r2.trans q3,fun id hid=>(q4 id hid).trans (r3 id hid)⟩
    exact J6 g1
   cases e with
   |normal=>exact fin2
   |ret=>exact fin2
   |exit i=>simp only[Ay]at he;rcases hex with rfl|rfl<;>simp at he
   |goto l=>exact he.elim
   |panic ch=>exact he.elim
   |outgrown=>exact he.elim
  unfold oG at hev;split at hev
  ·rename_i st1 h1;split at hev
   ·rename_i es h2;simp only[lα]at hev;exact mw h1 (.inl rfl) h2 hev.symm
   ·simp at hev
  ·rename_i st1 h1;split at hev
   ·rename_i es h2;simp only[lα]at hev;exact mw h1 (.inr rfl) h2 hev.symm
   ·simp at hev
  ·simp at hev
def ľ [Mv](hcall:ez P G call)(hmix:P.follows .mixedOrders=true){bl:Nat}{x:Fx}(hf:P.funcs[f]?=some fn)(hx:AR P G raw fn x){r:D}(hev:eS call bl x ds hp=some (r,out))(hr:HR φ w S hp)(hg:GR G w S)(hv:Pw (VR φ w S) ds vs):Calls P f vs.toArray w (RetOk φ hp w S r out hp.length):=WZ (Nat.le_refl _) hcall hmix hf hx hev hr hg hv
def fp (P:Program)(G:bY)(f:Nat)(g:LD->Option (D×List Ob)):Prop:=
 ∀xs r out,g xs=some (r,out)->eK P f/\∀w S vs,(∀b,S b->b<w.heap.size)->GR G w S->Pw (PR w S) xs vs->Calls P f vs.toArray w (RetOk [] [] w S r out 0)
def aaa [Mv](P:Program)(G:bY)(f:Nat)(g:List D->List Ob->Option (D×List Ob)):Prop:=
 ∀ds hp r out,g ds hp=some (r,out)->eK P f/\∀φ w S vs,HR φ w S hp->GR G w S->Pw (VR φ w S) ds vs->Calls P f vs.toArray w (RetOk φ hp w S r out (eo f ds hp.length))
structure vj [Mv](P:Program)(G:bY)(tab:Nat->Option Fn):Prop where
 code : ∀ f x, tab f = some (.code x) → ∃ fn raw, P.funcs[f]? = some fn ∧ AR P G raw fn x ∧ (fn.name == "runtime.NumGoroutine") = false
 prim:∀f g,tab f=some (.prim g)->fp P G f g
 both : ∀ f g x, tab f = some (.both g x) → fp P G f g ∧ ∃ fn raw, P.funcs[f]? = some fn ∧ AR P G raw fn x ∧ (fn.name == "runtime.NumGoroutine") = false
 any:∀f g,tab f=some (.any g)->aaa P G f g
def uq [Mv] (hmix : P.follows .mixedOrders = true) {call : aG} (hc : ez P G call) {f bl : Nat} {fn : Func} {raw : Nat → Bool} {x : Fx} (h1 : P.funcs[f]? = some fn) (h2 : AR P G raw fn x) (h3 : (fn.name == "runtime.NumGoroutine") = false) {ds : List D} {hp : List Ob} {r : D} {out : List Ob} (h : oG (eo f ds hp.length) call bl x ds hp = some (r, out)) :
  eK P f/\∀φ w S vs,HR φ w S hp->GR G w S->Pw (VR φ w S) ds vs->Calls P f vs.toArray w (RetOk φ hp w S r out (eo f ds hp.length)):=by
 refine⟨⟨fn,h1,?_,h3⟩,fun φ w S vs hr hg hv=>WZ (ss _ _ _) hc hmix h1 h2 h hr hg hv⟩
 cases hb:fn.body with
 |none=>obtain⟨h4,_⟩:=h2;simp_all
 |some c=>rfl
def CG {g:LD->Option (D×List Ob)}(hg:fp P G f g){xs:LD}(hxs:iO ds=some xs){r:D}(h:g xs=some (r,out)):
  eK P f/\∀φ w S vs,HR φ w S []->GR G w S->Pw (VR φ w S) ds vs->Calls P f vs.toArray w (RetOk φ [] w S r out 0):=by
 obtain⟨h1,h2⟩:=hg xs r out h;refine⟨h1,fun φ w S vs hr hgr hv=>?_⟩
 have hφ:φ=[]:=lθ (by rw[hr.len];rfl);subst hφ;exact h2 w S vs hr.low hgr (ry hxs hv)
def rU [Mv](hmix:P.follows .mixedOrders=true){tab:Nat->Option Fn}(ht:vj P G tab):∀n,ez P G (evFn tab n)
 |0=>by intro f ds hp r out h;simp[evFn]at h
 |n+1=>by
  intro f ds hp r out h;simp only[evFn]at h;split at h
  ·rename_i x hx;obtain⟨fn,raw,h1,h2,h3⟩:=ht.code f x hx;exact uq hmix (rU hmix ht n) h1 h2 h3 h
  ·rename_i g hg;split at h
   ·rename_i xs hxs;split at h
    ·rw[List.length_nil,ze];exact CG (ht.prim f g hg) hxs h
    ·simp at h
   ·simp at h
  ·rename_i g x hx;obtain⟨hg,fn,raw,h1,h2,h3⟩:=ht.both f g x hx;split at h
   ·rename_i xs hxs;split at h
    ·rw[List.length_nil,ze];exact CG hg hxs h
    ·exact uq hmix (rU hmix ht n) h1 h2 h3 h
   ·exact uq hmix (rU hmix ht n) h1 h2 h3 h
  ·rename_i g hg;exact ht.any f g hg ds hp r out h
  ·simp at h
end
end
end Go.Ab
