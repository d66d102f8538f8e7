import Derived.Test.YtbgddkffhndjcaaGreatDoorAm1
import Derived.Laws.Externs
import Derived.Orders
set_option linter.all false
namespace Go.Ab
open Go
section
variable [Letters]
def Ren (σ:Nat->Option Nat)(φ φ':List cK):Prop:=∀i j,σ i=some j->∀l,φ[i]?=some l->l≠ .none->φ'[j]?=some l
mutual
def AK {σ:Nat->Option Nat}{φ φ':List cK}{w:World}{S:Nat->Prop}(hσ:Ren σ φ φ'):∀(d:D) {v:Value},VR φ w S d v->VR φ' w S (mapD σ d) v
 | .p x,v,h=>by simpa only[mapD,VR]using h
 | .agg ds,v,h=>by
  simp only[mapD,VR]at h ⊢
  obtain⟨vs,rfl,h1,h2⟩:=h;exact⟨vs,rfl,uc hσ ds h1,h2⟩
 | .tup ds,v,h=>by
  simp only[mapD,VR]at h ⊢
  obtain⟨vs,rfl,h1⟩:=h;exact⟨vs,rfl,uc hσ ds h1⟩
 | .box id off,v,h=>by
  simp only[mapD];split
  ·rename_i j hj;simp only[VR]at h ⊢
   obtain⟨b,h1,rfl⟩:=h;exact⟨b,hσ _ _ hj _ h1 (by simp),rfl⟩
  ·simp only[VR]
 | .el id i off,v,h=>by
  simp only[mapD];split
  ·rename_i j hj;simp only[VR]at h ⊢
   obtain⟨b,o,cap,z,n,h1,h2,rfl⟩:=h;exact⟨b,o,cap,z,n,hσ _ _ hj _ h1 (by simp),h2,rfl⟩
  ·simp only[VR]
 | .ip x off,v,h=>by simpa only[mapD,VR]using h
 | .arr id lo len z,v,h=>by
  simp only[mapD];split
  ·rename_i j hj;simp only[VR]at h ⊢
   obtain⟨b,o,cap,n,a,h1,h2⟩:=h;exact⟨b,o,cap,n,a,hσ _ _ hj _ h1 (by simp),h2⟩
  ·simp only[VR]
 | .sl g z es,v,h=>by simpa only[mapD,VR]using h
 | .map id,v,h=>by
  simp only[mapD];split
  ·rename_i j hj;simp only[VR]at h ⊢
   obtain⟨r,h1,rfl⟩:=h;exact⟨r,hσ _ _ hj _ h1 (by simp),rfl⟩
  ·simp only[VR]
 | .fn f caps,v,h=>by
  simp only[mapD,VR]at h ⊢
  obtain⟨fs,cs,rfl,hk,h1⟩:=h;exact⟨fs,cs,rfl,hk,uc hσ caps h1⟩
 | .iface t d,v,h=>by
  simp only[mapD,VR]at h ⊢
  obtain⟨u,rfl,h1⟩:=h;exact⟨u,rfl,AK hσ d h1⟩
 | .junk,v,h=>by simp only[mapD,VR]
def uc {σ:Nat->Option Nat}{φ φ':List cK}{w:World}{S:Nat->Prop}(hσ:Ren σ φ φ'):∀(ds:List D) {vs:List Value},O0 φ w S ds vs->O0 φ' w S (mapD.mapDL σ ds) vs
 |[],vs,h=>by simpa only[mapD.mapDL,O0]using h
 |d::r,vs,h=>by
  simp only[mapD.mapDL,O0]at h ⊢
  obtain⟨u,us,rfl,h1,h2⟩:=h;exact⟨u,us,rfl,AK hσ d h1,uc hσ r h2⟩
end
variable {σ:Nat->Option Nat} {φ:List cK}
def OF {φ':List cK}{w:World}{S:Nat->Prop}(hσ:Ren σ φ φ'){ds:List D}{vs:List Value}(h:Pw (VR φ w S) ds vs):Pw (VR φ' w S) (mapD.mapDL σ ds) vs:=
 VRs_iff.1 (uc hσ ds (VRs_iff.2 h))
def abO (σ:Nat->Option Nat)(cs:List D)(h:b3 (mapD.mapDL σ cs)=true):b3 cs=true:=by
 have hl:∀cs:List D,(mapD.mapDL σ cs).length=cs.length:=fun cs=>by
  induction cs with
  |nil=>rfl
  |cons d r ih=>simp only[mapD.mapDL,List.length_cons,ih]
 unfold b3 at h ⊢
 rw[hl]at h;rw[lγ]at h ⊢
 refine⟨h.1,?_⟩;cases cs with
 |nil=>exact h.2
 |cons d r=>
  have h2:=h.2;simp only[mapD.mapDL]at h2;cases d with
  |p x=>cases x<;>first|rfl|exact absurd h2 (by simp[mapD,pH])
  |box i o=>rfl
  |agg ds=>cases h2
  |tup ds=>cases h2
  |el i j o=>simp only[mapD]at h2;split at h2<;>cases h2
  |ip x o=>cases h2
  |arr i a b c=>simp only[mapD]at h2;split at h2<;>cases h2
  |sl g z es=>cases h2
  |map i=>simp only[mapD]at h2;split at h2<;>cases h2
  |fn f ds=>cases h2
  |iface t d=>cases h2
  |junk=>cases h2
def XV {φ':List cK}{w:World}{S:Nat->Prop}(hσ:Ren σ φ φ'){l:cK}{o:Ob}(h:OR φ w S l o):OR φ' w S l (ck σ o):=by
 cases o with
 |box cs=>
  cases l with
  |box b=>
   obtain⟨vs,t,fz,h1,h2,h3,h4,h5⟩:=h;exact⟨vs,t,fz,h1,h2,OF hσ h3,h4,fun hh=>h5 (abO σ cs hh)⟩
  |_=>simp only[OR]at h
 |arr es=>cases l<;>simpa only[OR,ck]using h
 |fz es=>cases l<;>simpa only[OR,ck]using h
 |byt es=>cases l<;>simpa only[OR,ck]using h
 |map ks vs=>cases l<;>simpa only[OR,ck]using h
 |fzm ks vs=>cases l<;>simpa only[OR,ck]using h
 |mapd ks vs=>
  cases l with
  |map r=>
   obtain⟨es,c,h1,h2,h3⟩:=h;exact⟨es,c,h1,h2,OF hσ h3⟩
  |_=>simp only[OR]at h
 |dead=>cases l<;>simp only[OR,ck]
 |unborn=>cases l<;>simpa only[OR,ck]using h
def vd (σ:Nat->Option Nat)(l:cK)(o:Ob):cj l (ck σ o)=cj l o:=by
 cases o<;>cases l<;>rfl
def Û {id:Nat}:∀{ids:LN} {n j:Nat},idx.go id ids n=some j->n<=j/\ids[j - n]?=some id
 |[],n,j,h=>by simp[idx.go]at h
 |x::r,n,j,h=>by
  simp only[idx.go]at h;rw[beq_eq]at h;by_cases hx:x=id
  ·simp_all
  ·simp[hx]at h;obtain⟨h1,h2⟩:=Û h;grind
variable {ids:LN} {id:Nat}
def Lv {j:Nat}(h:idx ids id=some j):ids[j]?=some id:=by
 have:=(Û (n:=0) h).2;omega
def Bm {id:Nat}:∀{ids:LN} {n:Nat},id∈ids->∃j,idx.go id ids n=some j
 |[],n,h=>by simp at h
 |x::r,n,h=>by
  simp only[idx.go];rw[beq_eq];by_cases hx:x=id
  ·simp[hx]
  ·simp only[hx,cond_false];exact Bm ((mα.1 h).resolve_left fun e=>hx e.symm)
def EZ (h:ids.Nodup){i j x:Nat}(hi:ids[i]?=some x)(hj:ids[j]?=some x):i=j:=by
 have hlt:i<ids.length:=by
  grind
 exact(List.getElem?_inj hlt h).1 (hi.trans hj.symm)
def PI (h:ids.Nodup){k:Nat}(hk:ids[k]?=some id):idx ids id=some k:=by
 obtain⟨j,hj⟩:=Bm (n:=0) (mθ hk);have hj':idx ids id=some j:=hj;rw[hj',EZ h (Lv hj') hk]
def kY (ids:LN)(φ:List cK):List cK:=ids.map fun i=>φ.getD i .none
def rd (ids:LN)(φ:List cK):Ren (idx ids) φ (kY ids φ):=by
 intro i j hj l hl _;have:=Lv hj;simp[kY,this,hl]
section
variable {φ:List cK} {w:World} {S:Nat->Prop} {hp:List Ob}
def zx (hr:HR φ w S hp){k:Nat}{l:cK}{o:Ob}(h1:(kY ids φ)[k]?=some l)(h2:(bZ ids hp)[k]?=some o):∃i,ids[k]?=some i/\((φ[i]?=some l/\∃o0,hp[i]?=some o0/\o=ck (idx ids) o0)\/(φ[i]?=none/\l= .none/\o= .dead)):=by
 simp only[kY,bZ,mζ,qθ]at h1 h2;obtain⟨i,hi,rfl⟩:=h1;obtain⟨i',hi',rfl⟩:=h2;rw[hi]at hi';simp at hi';subst hi';refine⟨i,hi,?_⟩;rcases lυ i hp.length with hlt|hge
 ·have h3:i<φ.length:=by rw[hr.len];exact hlt
  refine .inl ⟨by simp_all,hp[i],lθ hlt,?_⟩
  rw[Hy (lθ hlt)]
 ·have h3:φ.length<=i:=by rw[hr.len];exact hge
  refine .inr ⟨lξ h3,by simp_all,?_⟩
  simp[aX,lξ hge,ck]
def sV (hr:HR φ w S hp){b:Nat}(h:bs (kY ids φ) (bZ ids hp) b):wk φ hp (· ∈ids) b:=by
 obtain⟨k,l,o,h1,h2,h3⟩:=h;obtain⟨i,hi,(⟨g1,o0,g2,rfl⟩|⟨_,rfl,rfl⟩)⟩:=zx hr h1 h2
 ·rw[vd]at h3;exact⟨i,l,o0,mθ hi,g1,g2,h3⟩
 ·simp[cj]at h3
def HR.shrink (hr:HR φ w S hp)(hnd:ids.Nodup):HR (kY ids φ) w S (bZ ids hp) where
 len:=by simp[kY,bZ]
 obj k l o h1 h2:=by
  obtain⟨i,hi,(⟨g1,o0,g2,rfl⟩|⟨_,rfl,rfl⟩)⟩:=zx hr h1 h2
  ·exact XV (rd ids φ) (hr.obj i l o0 g1 g2)
  ·simp only[OR]
 own b hb:=by
  obtain⟨i,l,o,_,h1,h2,h3⟩:=sV hr hb;exact hr.own b ⟨i,l,o,h1,h2,h3⟩
 one k k' l l' o o' b h1 h2 h1' h2' h3 h3':=by
  obtain⟨i,hi,(⟨g1,o0,g2,rfl⟩|⟨_,rfl,rfl⟩)⟩:=zx hr h1 h2
  ·obtain⟨i',hi',(⟨g1',o0',g2',rfl⟩|⟨_,rfl,rfl⟩)⟩:=zx hr h1' h2'
   ·rw[vd]at h3 h3';have:=hr.one i i' l l' o0 o0' b g1 g2 g1' g2' h3 h3';subst this;exact EZ hnd hi hi'
   ·simp[cj]at h3'
  ·simp[cj]at h3
 low:=hr.low
def SG (hr:HR φ w S hp)(ids:LN){b:Nat}(h:bs (kY ids φ) (bZ ids hp) b):bs φ hp b:=by
 obtain⟨i,l,o,_,h1,h2,h3⟩:=sV hr h;exact⟨i,l,o,h1,h2,h3⟩
end
def fh {hp:List Ob}:∀(n:Nat) (ws acc:LN),acc.Nodup->(close hp n ws acc).Nodup/\acc <+: close hp n ws acc
 |0,ws,acc,h=>by simp only[close];simp_all
 |n+1,[],acc,h=>by simp only[close];simp_all
 |n+1,id::ws,acc,h=>by
  simp only[close];split
  ·exact fh n ws acc h
  ·have hni:id∉acc:=by simp_all
   obtain⟨h1,h2⟩:=fh (hp:=hp) n (ky (hp.getD id .dead)++ws) (acc++[id]) (by
    grind)
   exact⟨h1,(List.prefix_append _ _).trans h2⟩
variable {ws:LN}
def KC {hp:List Ob}{n m:Nat}{k:Nat}(hk:k<m):(close hp n ws (List.range m))[k]?=some k:=by
 obtain⟨r,hr⟩:=(fh (hp:=hp) n ws (List.range m) List.nodup_range).2;grind
def EL {hp:List Ob}{n m:Nat}(hm:m<=φ.length)(hid:id<m):(kY (close hp n ws (List.range m)) φ)[id]?=φ[id]?:=by
 simp only[kY,mζ,KC hid,Option.map_some];grind
def Bk {out:LN}{f:D->D}{tm:Tm}{t:Nat}:get (fw out f tm) t=if t∈out then f (get tm t)else .junk:=by
 induction out with
 |nil=>rfl
 |cons s r ih=>
  simp only[fw,get];rw[beq_eq];grind
end
section
variable [Letters]
def RetOk (φ:List cK)(hp:List Ob)(w:World)(S:Nat->Prop)(r:D)(out:List Ob)(m:Nat):Ending->World->Prop
 | .returned v,w'=>∃φ' S',VR φ' w' S' r v/\HR φ' w' S' out/\Fr (bs φ hp) S w (bs φ' out) S' w'/\∀id,id<m->φ'[id]?=φ[id]?
 |_,_=>False
def dO (P : Program) (f : Nat) : Prop := ∃ fn, P.funcs[f]? = some fn ∧ fn.body.isNone = false ∧ (fn.name == "runtime.NumGoroutine") = false
def gA [Mv](P:Program)(G:bV)(call:aw):Prop:=
 ∀f ds hp r out,call f ds hp=some (r,out)->dO P f/\∀φ w S vs,HR φ w S hp->GR G w S->Pw (VR φ w S) ds vs->Calls P f vs.toArray w (RetOk φ hp w S r out (eH f ds hp.length))
theorem uN [Mv](f:Nat)(ds:List D)(n:Nat):eH f ds n<=n:=by
 unfold eH;grind
def Bs [Mv](f:Nat)(ds:List D):eH f ds 0=0:=Nat.le_zero.1 (uN f ds 0)
variable {f:Nat}
def PN [Mv](h:Mv.mv f=false)(ds:List D)(n:Nat):eH f ds n=n:=by
 unfold eH;grind
variable {m:Nat}
def RetOk.le {φ:List cK}{hp:List Ob}{w:World}{S:Nat->Prop}{r:D}{out:List Ob}{m':Nat}(hm:m'<=m){e:Ending}{w':World}(h:RetOk φ hp w S r out m e w'):RetOk φ hp w S r out m' e w':=by
 cases e with
 |returned v=>
  obtain⟨φ',S',h1,h2,h3,h4⟩:=h;exact⟨φ',S',h1,h2,h3,fun id hid=>h4 id (by omega)⟩
 |panicked c=>exact h
 |outgrown=>exact h
section
variable {P:Program} {G:bV} {φ:List cK} {w:World} {S:Nat->Prop} {hp:List Ob} {d:D} {ups:List (Nat×Ob)} {new:List Ob}
def QG (ids:LN)(hp:List Ob):(ids.map (aX hp)).map (ck (idx ids))=bZ ids hp:=by
 simp[bZ,List.map_map]
def WV (m:Nat)(ids:LN)(os:List Ob):List (Nat×Ob):=(ids.take m).zip os++(ids.drop m).map fun i=>(i,.dead)
def atM (m:Nat)(ids:LN)(os:List Ob)(i:Nat):Ob:=bif Nat.blt ((idx ids i).getD 0) m then os.getD ((idx ids i).getD 0) .dead else .dead
variable {ids:LN}
def TL (hnd:ids.Nodup){os:List Ob}(hm:m<=ids.length)(hle:m<=os.length):WV m ids os=ids.map fun i=>(i,atM m ids os i):=by
 unfold WV;have hz:∀k:Nat,((ids.take m).zip os)[k]?=((ids.take m)[k]?).bind fun i=>(os[k]?).map fun o=>(i,o):=by
  grind
 have hzl:((ids.take m).zip os).length=m:=by simp_all
 apply List.ext_getElem?;intro k;rw[mζ];by_cases hk:k<m
 ·have hki:k<ids.length:=by omega
  have hko:k<os.length:=by omega
  rw[lκ (by omega),hz,List.getElem?_take,if_pos hk,lθ hki];have hat:ids[k]?=some ids[k]:=lθ hki;have hbl:Nat.blt k m=true:=by simp_all
  simp only[Option.bind_some,lθ hko,Option.map_some,atM,PI hnd hat,Option.getD_some,hbl,cond_true,lω]
 ·rw[lτ (by omega),hzl,mζ,List.getElem?_drop,show m+(k - m)=k by omega];cases hki:ids[k]? with
  |none=>rfl
  |some i=>
   have hbl:Nat.blt k m=false:=by rw[blt_eq];simp_all
   simp only[Option.map_some,atM,PI hnd hki,Option.getD_some,hbl,cond_false]
def ϑ (hnd:ids.Nodup){out:List Ob}(hm:m<=ids.length)(hle:m<=out.length){φ':List cK}(hl:φ'.length=out.length)(hlen:φ.length=hp.length)(hlow:∀k,k<m->φ'[k]?=(kY ids φ)[k]?){σ:Nat->Option Nat}{id:Nat}{l:cK}{o:Ob}(hc:id∈ids\/hp.length<=id)(h1:(φ++φ'.drop m)[id]?=some l)(h2:(grow (ar hp (WV m ids (out.map (ck σ)))) ((out.map (ck σ)).drop m))[id]?=some o):
  o= .dead\/∃k o0,φ'[k]?=some l/\out[k]?=some o0/\o=ck σ o0/\((id<hp.length/\k<m/\ids[k]?=some id)\/(hp.length<=id/\k=m+(id - hp.length))):=by
 have hgrow:∀(a b:List Ob),grow a b=a++b:=by intro a b;cases b<;>simp[grow]
 rw[hgrow]at h2;by_cases hlt:id<hp.length
 ·have hmem:=hc.resolve_right (by omega);obtain⟨k,hk⟩:=List.getElem?_of_mem hmem;have hkl:k<ids.length:=by
   rcases lυ k ids.length with h|h
   ·exact h
   ·simp[lξ h]at hk
  rw[lκ (by rw[bJ];exact hlt),TL hnd hm (by simpa using hle),f9 (g:=atM m ids (out.map (ck σ))),if_pos ⟨hmem,hlt⟩]at h2;rw[lκ (by omega)]at h1;simp only[atM,PI hnd hk,Option.getD_some]at h2;by_cases hkm:k<m
  ·have hko:k<out.length:=by omega
   have hbl:Nat.blt k m=true:=by rw[blt_eq];simpa using hkm
   rw[hbl]at h2;refine .inr ⟨k,out[k],?_,lθ hko,?_,.inl ⟨hlt,hkm,hk⟩⟩
   ·rw[hlow k hkm];simp[kY,hk,h1]
   ·simp[hko]at h2;exact h2.symm
  ·have hbl:Nat.blt k m=false:=by rw[blt_eq];simpa using hkm
   rw[hbl]at h2;simp only[cond_false,lβ]at h2;exact .inl h2.symm
 ·have hge:hp.length<=id:=Nat.le_of_not_lt hlt;rw[lτ (by rw[bJ];exact hge),bJ,List.getElem?_drop,mζ,qθ]at h2;rw[lτ (by omega),List.getElem?_drop,hlen]at h1;obtain⟨o0,ho,rfl⟩:=h2;exact .inr ⟨m+(id - hp.length),o0,h1,ho,rfl,.inr ⟨hge,rfl⟩⟩
variable {vs:List Value}
def A8 {call:aw}(hr:HR φ w S hp)(hg:GR G w S){ds:List D}(hv:Pw (VR φ w S) ds vs)(hnd:ids.Nodup)(hm:m<=ids.length)(hcall:∀r out,call f (mapD.mapDL (idx ids) ds) (bZ ids hp)=some (r,out)->dO P f/\∀φ w S vs,HR φ w S (bZ ids hp)->GR G w S->Pw (VR φ w S) (mapD.mapDL (idx ids) ds) vs->Calls P f vs.toArray w (RetOk φ (bZ ids hp) w S r out m))(h:lh call f ds m ids (ids.map (aX hp)) hp.length=some (d,ups,new)):
  dO P f/\Calls P f vs.toArray w (RetOk φ hp w S d (grow (ar hp ups) new) hp.length):=by
 unfold lh at h;rw[QG]at h;split at h
 ·simp at h
 ·rename_i r out hcl;rw[ble_eq]at h;by_cases hle:m<=out.length
  ·simp only[hle,lψ]at h;obtain⟨rfl,rfl,rfl⟩:=h;refine⟨(hcall r out hcl).1,((hcall r out hcl).2 (kY ids φ) w S vs (hr.shrink hnd) hg (OF (rd ids φ) hv)).mono fun e w' he=>?_⟩
   cases e with
   |panicked c=>exact he
   |outgrown=>exact he
   |returned v=>
    obtain⟨φ',S',h1,h2,h3,h4⟩:=he;have hlen:=hr.len;have hl:=h2.len;have hgrow:∀(a b:List Ob),grow a b=a++b:=by intro a b;cases b<;>simp[grow]
    have hlo:∀id,id<hp.length->(φ++φ'.drop m)[id]?=φ[id]?:=fun id hid=>lκ (by omega)
    have hups:((ids.take m).zip (out.map (ck (back m hp.length ids out.length)))++(ids.drop m).map fun i=>(i,.dead))=WV m ids (out.map (ck (back m hp.length ids out.length))):=rfl
    have hren:Ren (back m hp.length ids out.length) φ' (φ++φ'.drop m):=by
     intro k j hj l hl1 hn;unfold back at hj;rw[blt_eq,blt_eq]at hj;by_cases hk:k<m
     ·rw[h4 k hk]at hl1;simp only[kY,lβ]at hl1;grind
     all_goals grind
    have hext:Ext φ (φ++φ'.drop m):=by
     intro id l hl1 _;grind
    have hoc:∀b,bs (kY ids φ) (bZ ids hp) b->wk φ hp (fun id=>id∈ids\/hp.length<=id) b:=by
     intro b hb;obtain⟨i,l,o,hc,g1,g2,g3⟩:=sV hr hb;exact⟨i,l,o,.inl hc,g1,g2,g3⟩
    have hat:=fun {id l o} (hc:id∈ids\/hp.length<=id) (q1:(φ++φ'.drop m)[id]?=some l) (q2:(grow (ar hp (WV m ids (out.map (ck (back m hp.length ids out.length))))) ((out.map (ck (back m hp.length ids out.length))).drop m))[id]?=some o)=>
     ϑ hnd hm hle hl hlen h4 hc q1 q2
    have hdead:∀{l:cK} {b:Nat},cj l .dead=some b->False:=fun {l b} h=>by cases l<;>simp[cj]at h
    obtain⟨k1,k2⟩:=hr.gen (φ':=φ++φ'.drop m) (hp':=grow (ar hp (WV m ids (out.map (ck (back m hp.length ids out.length))))) ((out.map (ck (back m hp.length ids out.length))).drop m)) (S':=S') (w':=w') (fun id=>id∈ids\/hp.length<=id)
     (by rw[hgrow];simp[bJ];omega)
     (fun id hc=>by
      simp at hc;refine⟨hlo id hc.2,?_⟩;rw[hgrow,lκ (by rw[bJ];omega),TL hnd hm (by simp_all),f9 (g:=atM m ids (out.map (ck (back m hp.length ids out.length)))),if_neg (fun hh=>hc.1 hh.1)])
     hext
     (fun b hb hc=>h3.keep b hb fun ho=>hc (hoc b ho)) h3.size h3.os h3.tape h3.output h3.sub
     (fun b hb=>(h3.news b hb).imp_right (·.imp_left (hoc b))) h2.low
     (fun id l o hc q1 q2=>by
      rcases hat hc q1 q2 with rfl|⟨k,o0,g1,g2,rfl,_⟩
      ·simp only[OR]
      ·exact XV hren (h2.obj k l o0 g1 g2))
     (fun id l o b hc q1 q2 q3=>by
      rcases hat hc q1 q2 with rfl|⟨k,o0,g1,g2,rfl,_⟩
      ·simp_all
      rw[vd]at q3;have hOw:bs φ' out b:=⟨k,l,o0,g1,g2,q3⟩;exact⟨(h3.newo b hOw).imp_left (hoc b),(h2.own b hOw).2,(h2.own b hOw).1⟩)
     (fun id id' l l' o o' b hc hc' q1 q2 q1' q2' q3 q3'=>by
      rcases hat hc q1 q2 with rfl|⟨k,o0,g1,g2,rfl,gk⟩
      ·simp_all
      rcases hat hc' q1' q2' with rfl|⟨k',o0',g1',g2',rfl,gk'⟩
      ·simp_all
      rw[vd]at q3 q3';have:=h2.one k k' l l' o0 o0' b g1 g2 g1' g2' q3 q3';grind)
    exact⟨_,S',AK hren r h1,k1,k2,hlo⟩
  ·simp_all
def EA (call:aw)(f:Nat)(ds:List D)(ids:LN)(obs:List Ob)(len:Nat):fq call f ds ids obs len=lh call f ds ids.length ids obs len:=by
 unfold fq lh;simp
def Zm [Mv]{call:aw}(hcall:gA P G call)(hr:HR φ w S hp)(hg:GR G w S){ds:List D}(hv:Pw (VR φ w S) ds vs)(hnd:ids.Nodup)(h:qt call f ds ids (ids.map (aX hp)) hp.length=some (d,ups,new)):
  dO P f/\Calls P f vs.toArray w (RetOk φ hp w S d (grow (ar hp ups) new) hp.length):=by
 have hsl:(bZ ids hp).length=ids.length:=by simp[bZ]
 unfold qt at h;cases hmv:Mv.mv f
 ·rw[hmv]at h;rw[EA]at h;refine A8 hr hg hv hnd (Nat.le_refl _) (fun r out hc=>?_) h;have:=hcall f _ _ r out hc;rw[PN hmv,hsl]at this;omega
 ·rw[hmv]at h;refine A8 hr hg hv hnd (uN _ _ _) (fun r out hc=>?_) h;have:=hcall f _ _ r out hc;simp_all
end
end
section
variable [Letters]
structure rB (G:bV)(N:Nat)(a:Act)(φ:List cK)(w:World)(S:Nat->Prop)(st:St):Prop where
 tmr:WY φ w S st.tm a
 gr:GR G w S
 hr:HR φ w S st.hp
 size:N<=a.tmps.size
 defers:a.defers=[]
variable {φ:List cK}
def rB.cx {G:bV}{N:Nat}{a:Act}{w:World}{S:Nat->Prop}{st:St}(h:rB G N a φ w S st):Cx G a φ w S st.hp st.tm:=⟨h.tmr,h.gr,h.hr⟩
def Mh {w:World}{S:Nat->Prop}{d:D}{v:Value}(h:VR φ w S d v):VR φ w S (Mf d) v:=by
 cases d<;>simp only[Mf]<;>first
  |exact h
  |(
    obtain⟨a,cap,us,rfl,h1,_,h3,h4⟩:=h;simp only[VR,PR];grind)
variable {ds:List D} {vs:List Value}
def Mg {w:World}{S:Nat->Prop}(h:Pw (VR φ w S) ds vs):Pw (VR φ w S) (ds.map Mf) vs:=
 Pw.map_left (h.mono fun _ _ hh=>Mh hh)
def SW {w:World}{S:Nat->Prop}{d:D}{v:Value}(h:VR φ w S d v):VR φ w S (norm d) v:=by
 cases d with
 |sl g z es=>exact Mh h
 |agg ds=>
  obtain⟨vs,rfl,h1,h2⟩:=h;have:=qK (Mg (VRs_iff.1 h1)) h2;rwa [Array.toArray_toList]at this
 |tup ds=>
  obtain⟨vs,rfl,h1⟩:=h;exact⟨vs,rfl,VRs_iff.2 (Mg (VRs_iff.1 h1))⟩
 |_=>exact h
def Hu {w:World}{S:Nat->Prop}(h:Pw (VR φ w S) ds vs):Pw (VR φ w S) (ds.map norm) vs:=
 Pw.map_left (h.mono fun _ _ hh=>SW hh)
section
variable {P:Program} {G:bV} {N:Nat} {o:Oper} {a:Act} {φ:List cK} {w:World} {S:Nat->Prop} {hp:List Ob} {tm:Tm} {st st':St} {base:Nat}
variable {x:Operand} {f:Nat} {fs:Array Value}
def Be {c:Call}{cs:Array Value}(ho:o.op= .call c)(hc:c.callee= .value x)(hx:a.eval x= .func (.func f) fs cs):
  (execOp a.eval o).run P w=(callFunc f (fs++c.args.map a.eval++cs)).run P w:=by
 simp[execOp,ho,resolve,hc,hx,Deferred.ofValue,invoke]
def sO {c:Call}{cs:Array Value}(ho:o.op= .call c)(hc:c.callee= .value x)(hx:a.eval x= .func (.func f) fs cs)(hf:dO P f):
  (execOp a.eval o).run P w= .ok (.enter f (fs++c.args.map a.eval++cs)) w:=by
 rw[Be ho hc hx];obtain⟨fn,h1,h2,h3⟩:=hf;have h4 : fn.name ≠ "runtime.NumGoroutine" := by simp_all
 have h5:fn.body≠none:=by grind
 simp[callFunc,h1,h5,h4]
def EF {w:World}{S:Nat->Prop}{caps args:List D}{fs cs:List Value}(hk:fs.length=fnK f)(hc:Pw (VR φ w S) caps (fs++cs))(ha:Pw (VR φ w S) args vs):Pw (VR φ w S) (lU f caps args) (fs++vs++cs):=by
 unfold lU;have h1:=hc.take (fnK f);have h2:=hc.drop (fnK f);rw[<-hk,List.take_left' rfl]at h1;rw[<-hk,List.drop_left' rfl]at h2;rw[lε,<-hk];exact h1.append (ha.append h2)
variable {q:O}
def Ze {op:BinOp}{t:TypeId}{y:Operand}(h:Zd P op t x y=some q):ea q=false:=by
 unfold Zd at h;simp only[cond_eq_ite]at h;repeat' split at h
 all_goals first
  |grind
  |(simp at h;subst h;rfl)
def U0 {s t:TypeId}(h:ui P s t=some q):ea q=false:=by
 unfold ui at h;simp only[cond_eq_ite]at h;repeat' split at h
 all_goals first
  |grind
  |(simp at h;subst h;rfl)
variable {raw:Nat->Bool} {as:List A}
def U1 (hq:Zf P G raw o=some (q,as))(hic:ea q=true):∃c,o.op= .call c/\qp P G raw c=some (q,as):=by
 unfold Zf at hq;all_goals simp_all
 all_goals try simp only[cond_eq_ite]at hq
 all_goals (repeat' split at hq)
 all_goals first
  |grind
  |(obtain⟨_,_,he⟩:=dr hq;cases he;simp[ea]at hic;done)
  |(obtain⟨_,_,_,_,he⟩:=jS hq;cases he;simp[ea]at hic;done)
  |(obtain⟨rfl,rfl⟩:=br hq;simp[ea]at hic;done)
  |(obtain⟨_,_,_,_,he⟩:=jS hq;cases he;rename_i hcb;rw[Ze hcb]at hic;simp_all)
  |(obtain⟨_,_,he⟩:=dr hq;cases he;rename_i hcb;rw[U0 hcb]at hic;simp_all)
  |skip
def Zg (hq:cOp P G raw o=some (q,as))(hic:ea q=true):∃c,o.op= .call c/\qp P G raw c=some (q,as):=by
 unfold cOp at hq;split at hq
 ·rename_i r hr;simp at hq;subst hq;exact U1 hr hic
 ·obtain⟨rfl,rfl⟩:=hq;cases hic
def Kv {c:Call}(hq:qp P G raw c=some (q,as))(hic:ea q=true):∃x,c.callee= .value x:=by
 unfold qp at hq;simp only[cond_eq_ite]at hq;repeat' split at hq
 all_goals first
  |grind
  |rfl
  |(obtain⟨rfl,rfl⟩:=br hq;simp[ea]at hic;done)
  |skip
def WB {r:Nat}{es:Array MapEntry}{clock t:Nat}(hb:w.heap[r]?=some (.map es clock)):
  (Extern.MapsClone.clone #[.iface t (.map (some r))]).run P w= .ok (.iface t (.map (some w.heap.size))) (w.alloc (.map es clock)):=by
 have e:Extern.MapsClone.clone #[.iface t (.map (some r))]=(getObj r >>= fun o=>match o with
   | .map entries clock=>(newObj (.map entries clock) >>= fun n=>pure (.iface t (.map (some n))))
   | _ => stuck "maps.clone: a map expected") := rfl
 rw[e];simp only[Sem.run_bind,pb hb,Result.andThen_ok];rfl
def Py {fn : Func} (h : fn.name = "maps.clone") : Extern.find fn = some Extern.MapsClone.clone := by
 unfold Extern.find;simp only[h];rfl
def rB.after (h:rB G N a φ w S st){φ':List cK}{w':World}{S':Nat->Prop}{d:Option Nat}{x:D}{v:Value}{hp':List Ob}(hd:EB d a)(hv:VR φ' w' S' x v)(hr:HR φ' w' S' hp')(he:Ext φ φ')(hf:Fr (bs φ st.hp) S w (bs φ' hp') S' w'):
  rB G N (a.put d v) φ' w' S' ⟨put d x st.tm,hp'⟩ where
 tmr:=Ry hd (lI he (hf.stable h.hr) hf.sub h.tmr) hv
 gr:=zf (hf.stable h.hr) hf.sub h.gr
 hr:=hr
 size:=by have:=h.size;cases d<;>simpa[Act.put]using this
 defers:=by rw[<-h.defers];cases d<;>simp[Act.put]
def Mk {id:Nat}(h:dq (aX hp id)=true):hp[id]?=some .unborn:=by
 cases hc:aX hp id<;>rw[hc]at h<;>simp[dq]at h;exact fk hc (by simp)
variable {ids:LN}
def AM [Mv]{call:aw}{kk len:Nat}{vs:List D}{obs:List Ob}(h:ea q=false):wo call base q kk vs ids obs len=rD call base q kk vs ids obs len:=by
 cases q<;>first|rfl|(simp[ea]at h)
def nI [Mv]{vs:List D}{hp:List Ob}(h:ea q=false):dU q vs hp=bM q vs hp:=by
 cases q<;>first|rfl|(simp[ea]at h)
def qv:∀(ws acc:LN),acc.Nodup->(lP ws acc).Nodup
 |[],acc,h=>h
 |i::r,acc,h=>by
  simp only[lP];cases hc:acc.contains i
  ·refine qv r _ ?_;grind
  ·exact qv r acc h
def uK [Mv](f:Nat)(ws:LN)(hp:List Ob):(sT f ws hp).Nodup:=by
 unfold sT;cases Mv.mv f
 ·exact(fh _ ws [] (by simp)).1
 ·exact(fh _ _ _ (qv _ _ (by simp))).1
def xU [Mv](vs:List D)(hp:List Ob):(rZ vs hp).Nodup:=by
 have hc:(bM .callv vs hp).Nodup:=(fh _ (dids.didsL vs) [] (by simp)).1;unfold rZ;split
 ·cases Mv.mv _
  ·exact hc
  ·exact uK _ _ _
 ·exact hc
def Zl [Mv]{call:aw}{len:Nat}{obs:List Ob}{e:gx}(h:(bif Mv.mv f then none else fq call f ds ids obs len)=some e):qt call f ds ids obs len=some e:=by
 unfold qt;grind
def aaX [Mv]{call:aw}(hcall:gA P G call)(rel:rB G N a φ w S st){x:eP}(hq:cOp P G raw o=some (x.op,x.as))(hdst:x.dst=o.dst)(hN:∀t,o.dst=some t->t<N)(hb:base<=st.hp.length){ft:eC}(hev:rG call base x st=some (st',ft)){K:Act->World->Prop}{Q:Exit->Act->World->Prop}(hK:∀a' w' φ' S',rB G N a' φ' w' S' st'->Fr (bs φ st.hp) S w (bs φ' st'.hp) S' w'->(∀id,id<base->φ'[id]?=φ[id]?)->K a' w'):o.wp P a w K Q:=by
 have hd:EB o.dst a:=fun t ht=>mχ (hN t ht) rel.size
 unfold rG at hev;simp only at hev;cases hmk:(!(ed x.op)||dq (aX st.hp (base+x.k)))with
 |false=>rw[hmk]at hev;simp at hev
 |true=>
  rw[hmk]at hev;simp only[cond_true]at hev;have hmk':ed x.op=true->st.hp[base+x.k]?=some .unborn:=fun h=>by
   rw[h]at hmk;exact Mk (by simpa using hmk)
  split at hev
  ·simp at hev
  ·rename_i d ups new hact;simp only[lβ,lψ]at hev;obtain⟨rfl,rfl⟩:=hev;have kX:EffOk P o a φ w S st.hp base d (grow (ar st.hp ups) new)->o.wp P a w K Q:=by
    rintro⟨v,w',φ',S',h1,h2,h3,h4,h5,h6⟩
    refine h1.wp (hK _ _ φ' S' ?_ h5 h6);rw[hdst];exact rel.after hd h2 h3 h4 h5
   have finc:∀f args,(execOp a.eval o).run P w= .ok (.enter f args) w->Calls P f args w (RetOk φ st.hp w S d (grow (ar st.hp ups) new) st.hp.length)->o.wp P a w K Q:=by
    intro f args hrun hc;unfold Oper.wp;rw[hrun,Oper.upon_enter];refine hc.mono fun e w' he=>?_
    cases e with
    |panicked c=>exact he.elim
    |outgrown=>exact he.elim
    |returned v=>
     obtain⟨φ',S',h2,h3,h5,h6⟩:=he;refine hK _ _ φ' S' ?_ h5 (fun id hid=>h6 id (by omega));have he:Ext φ φ':=fun id l hl _=>by
      have:id<φ.length:=by
       rcases lυ id φ.length with h|h
       ·exact h
       ·simp[lξ h]at hl
      rw[h6 id (by rw[<-rel.hr.len];exact this)];exact hl
     rw[hdst];exact rel.after hd h2 h3 he h5
   cases hic:ea x.op with
   |false=>
    rw[AM hic,nI hic]at hact;exact kX (acg rel.cx hq hic hmk' hact)
   |true=>
    obtain⟨c,ho,hcq⟩:=Zg hq hic;obtain⟨xo,hc⟩:=Kv hcq hic;have hrelc:=rel.cx;unfold qp at hcq;rw[hc]at hcq;simp only at hcq;have hgo:∀{as':List A} {ds:List D} {f:Nat} {ids:LN} {vs:Array Value},ids.Nodup->Pw (VR φ w S) ds vs.toList->qt call f ds ids (ids.map (aX st.hp)) st.hp.length=some (d,ups,new)->(dO P f->(execOp a.eval o).run P w= .ok (.enter f vs) w)->o.wp P a w K Q:=by
     intro as' ds f ids vs hnd hp1 hdc hrun;obtain⟨h1,h2⟩:=Zm hcall rel.hr rel.gr hp1 hnd hdc;rw[Array.toArray_toList]at h2;exact finc f vs (hrun h1) h2
    have hnd:∀ws,(close st.hp bi ws []).Nodup:=fun ws=>(fh _ ws [] (by simp)).1
    split at hcq
    ·rename_i f heq;simp only[Callee.value.injEq]at heq;subst heq;split at hcq
     ·rename_i fn as' hfn has;have hargs:=et (a:=a) rel.tmr rel.gr has;have hargs':(#[]++c.args.map a.eval++ #[]).toList=c.args.toList.map a.eval:=by simp
      split at hcq
      ·obtain⟨hx1,hx2⟩:=br hcq;rw[<-hx1,<-hx2]at hact;simp only[wo,dU]at hact;refine hgo (as':=as') (vs:= #[]++c.args.map a.eval++ #[]) (uK _ _ _) ?_ hact (fun hf=>sO ho hc rfl hf);rw[hargs'];cases raw f with
       |true=>exact hargs
       |false=>exact Hu hargs
      ·rename_i hbody;cases hcl : (fn.name == "maps.clone" && (Extern.findNext fn).isNone) with
       |false=>
        rw[hcl,cond_false]at hcq;cases hne : (fn.name == "internal/abi.NoEscape" && (Extern.findNext fn).isNone) with
        |false=>rw[hne]at hcq;simp at hcq
        |true=>
         rw[hne,cond_true]at hcq;obtain⟨hx1,hx2⟩:=br hcq;rw[<-hx1]at hic;cases hic
       |true=>
        rw[hcl]at hcq;simp only[cond_true]at hcq;obtain⟨hx1,hx2⟩:=br hcq;rw[lγ,beq_iff_eq]at hcl;have hmk2:=hmk' (by rw[<-hx1];rfl);rw[<-hx1,<-hx2]at hact;simp only[wo,dU,rD,bM]at hact;have hex:∀{v:Value} {r:Nat} {es:Array MapEntry} {clock t:Nat},c.args.map a.eval= #[.iface t (.map (some r))]->w.heap[r]?=some (.map es clock)->
          (execOp a.eval o).run P w= .ok (.value (.iface t (.map (some w.heap.size)))) (w.alloc (.map es clock)):=by
         intro v r es clock t e1 e2;rw[Be ho hc rfl,run_callFunc_extern hfn (by rw[hcl.1];rfl) (by rw[hbody];rfl) (by simpa using hcl.2) (Py hcl.1)];rw[show #[]++c.args.map a.eval++ #[]= #[.iface t (.map (some r))] by rw[e1];rfl,WB e2];rfl
        have hfin:∀{t r:Nat} {ks ws:LD} {es:Array MapEntry} {clock:Nat},c.args.map a.eval= #[.iface t (.map (some r))]->w.heap[r]?=some (.map es clock)->Pw (PR w S) ks (es.toList.map (·.key))->Pw (PR w S) ws (es.toList.map (·.val))->
          EffOk P o a φ w S st.hp base (.iface t (.map (base+x.k))) (grow (ar st.hp [(base+x.k,.map ks ws)]) []):=by
         intro t r ks ws es clock e1 e2 p1 p2;have hst:gV S w (w.alloc (.map es clock)):=fun b hb=>nw w _ (rel.hr.low b hb)
         obtain⟨g1,g2,g3⟩:=rel.hr.born hmk2 (.map es clock) (l:= .map w.heap.size) (ob:= .map ks ws) (fun b hb=>by simp[cj]at hb;exact hb.symm) (by
          simp only[OR];exact⟨es,clock,jz w _,p1.mono fun _ _ hh=>bN hst (fun _ h=>h) _ hh,p2.mono fun _ _ hh=>bN hst (fun _ h=>h) _ hh⟩)
         refine⟨.iface t (.map (some w.heap.size)),_,_,S,.inl (hex (v:=undef) e1 e2),?_,by simpa[grow,ar,bY]using g1,g3,by simpa[grow,ar,bY]using g2,kv⟩
         simp only[VR];exact⟨_,rfl,_,kD rel.hr hmk2,rfl⟩
        refine kX ?_;unfold YH at hact;split at hact
        ·rename_i t id heq;obtain⟨v,e1,e2⟩:=Dp rel.cx has heq;simp only[VR]at e2;obtain⟨u,rfl,r,hr1,rfl⟩:=e2;split at hact
         ·rename_i ks ws hl;simp only[lβ,lψ]at hact;obtain⟨rfl,rfl,rfl⟩:=hact;obtain⟨es,clock,g1,g2,g3⟩:=rel.hr.obj id _ _ hr1 (cQ hl (by simp));exact hfin e1 g1 g2 g3
         ·rename_i ks ws hl;simp only[lβ,lψ]at hact;obtain⟨rfl,rfl,rfl⟩:=hact;obtain⟨_,es,clock,g1,g2,g3⟩:=rel.hr.obj id _ _ hr1 (cQ hl (by simp));exact hfin e1 g1 g2 g3
         ·simp at hact
        ·rename_i t ks ws heq;obtain⟨v,e1,e2⟩:=Dp rel.cx has heq;simp only[VR,PR]at e2;obtain⟨u,rfl,r,es,clock,rfl,hS,g1,g2,g3⟩:=e2;simp only[lβ,lψ]at hact;obtain⟨rfl,rfl,rfl⟩:=hact;exact hfin e1 g1 (PRs_iff.1 g2) (PRs_iff.1 g3)
        ·simp at hact
     ·simp at hcq
    ·rename_i g hng heq;simp only[Callee.value.injEq]at heq;subst heq;split at hcq
     ·rename_i g' as' hg' has;obtain⟨hx1,hx2⟩:=br hcq;have hargs:=et (a:=a) rel.tmr rel.gr has;have hfv:=bq (a:=a) rel.tmr rel.gr hg';rw[<-hx1,<-hx2]at hact;simp only[wo,dU,List.map_cons]at hact;generalize ev st.tm g'=dg at*
      unfold AY at hact;split at hact
      ·rename_i f caps args heq;simp only[mη]at heq;obtain⟨rfl,rfl⟩:=heq;simp only[VR,PR]at hfv;obtain⟨fs,cs,hfe,hk,hcs⟩:=hfv;refine hgo (as':=as') (vs:=fs++c.args.map a.eval++cs) (xU _ _) ?_ (Zl hact) (fun hf=>sO ho hc hfe hf);have:(fs++c.args.map a.eval++cs).toList=fs.toList++c.args.toList.map a.eval++cs.toList:=by simp
       rw[this];exact EF (by simpa using hk) (Pw.map_left ((PRs_iff.1 hcs).mono fun _ _ hh=>by simp only[VR];exact hh)) (Hu hargs)
      ·rename_i f caps args heq;simp only[mη]at heq;obtain⟨rfl,rfl⟩:=heq;simp only[VR]at hfv;obtain⟨fs,cs,hfe,hk,hcs⟩:=hfv;refine hgo (as':=as') (vs:=fs++c.args.map a.eval++cs) (xU _ _) ?_ hact (fun hf=>sO ho hc hfe hf);have:(fs++c.args.map a.eval++cs).toList=fs.toList++c.args.toList.map a.eval++cs.toList:=by simp
       rw[this];exact EF (by simpa using hk) (VRs_iff.1 hcs) (Hu hargs)
      ·simp at hact
     ·simp at hcq
    ·rename_i hb;simp at hb
    ·rename_i hb;simp at hb
end
end
section
variable [Letters] [Mv]
def jP (a b:List Ob):grow a b=a++b:=by cases b<;>simp[grow]
section
variable {P:Program} {G:bV} {N:Nat} {o:Oper} {a:Act} {φ:List cK} {w:World} {S:Nat->Prop} {hp:List Ob} {tm:Tm} {st st':St} {base:Nat}
def HR.reserve (hr:HR φ w S hp)(n:Nat):HR (φ++List.replicate n .none) w S (hp++List.replicate n .unborn)/\(∀b,bs (φ++List.replicate n .none) (hp++List.replicate n .unborn) b->bs φ hp b)/\Ext φ (φ++List.replicate n .none):=by
 have hext:Ext φ (φ++List.replicate n .none):=by
  intro id l hl _;have:id<φ.length:=by
   rcases lυ id φ.length with h|h
   ·exact h
   ·simp[lξ h]at hl
  rw[lκ this];exact hl
 have hat:∀{id:Nat} {l:cK} {o:Ob},(φ++List.replicate n .none)[id]?=some l->(hp++List.replicate n .unborn)[id]?=some o->(φ[id]?=some l/\hp[id]?=some o)\/(l= .none/\o= .unborn):=by
  intro id l o h1 h2;rcases lυ id hp.length with h|h
  ·rw[lκ h]at h2;rw[lκ (by rw[hr.len];exact h)]at h1;exact .inl ⟨h1,h2⟩
  ·rw[lτ h]at h2;rw[lτ (by rw[hr.len];exact h)]at h1;rw[List.getElem?_replicate]at h1 h2;split at h1<;>simp at h1;split at h2<;>simp at h2;exact .inr ⟨h1.symm,h2.symm⟩
 have hown:∀b,bs (φ++List.replicate n .none) (hp++List.replicate n .unborn) b->bs φ hp b:=by
  rintro b ⟨id,l,o,h1,h2,h3⟩
  rcases hat h1 h2 with⟨g1,g2⟩|⟨rfl,rfl⟩
  ·exact⟨id,l,o,g1,g2,h3⟩
  ·simp[cj]at h3
 refine⟨⟨by simp[hr.len],?_,fun b hb=>hr.own b (hown b hb),?_,hr.low⟩,hown,hext⟩
 ·intro id l o h1 h2;rcases hat h1 h2 with⟨g1,g2⟩|⟨rfl,rfl⟩
  ·exact t8 hext (fun _ _=>rfl) (fun _ h=>h) (fun _ _=>rfl) (hr.obj id l o g1 g2)
  ·simp only[OR]
 ·intro id id' l l' o o' b h1 h2 h1' h2' h3 h3';rcases hat h1 h2 with⟨g1,g2⟩|⟨rfl,rfl⟩
  ·rcases hat h1' h2' with⟨g1',g2'⟩|⟨rfl,rfl⟩
   ·exact hr.one id id' l l' o o' b g1 g2 g1' g2' h3 h3'
   ·simp[cj]at h3'
  ·simp[cj]at h3
def rB.reserve (h:rB G N a φ w S st)(n:Nat):rB G N a (φ++List.replicate n .none) w S ⟨st.tm,grow st.hp (List.replicate n .unborn)⟩ where
 tmr:=lI (h.hr.reserve n).2.2 (fun _ _=>rfl) (fun _ h=>h) h.tmr
 gr:=h.gr
 hr:=by simp only[jP];exact(h.hr.reserve n).1
 size:=h.size
 defers:=h.defers
structure ť (P:Program)(G:bV)(raw:Nat->Bool)(N:Nat)(all:List Oper)(o:Oper)(x:eP):Prop where
 op:cOp P G raw o=some (x.op,x.as)
 gd:Gm all o.guard=some x.gd
 dst:x.dst=o.dst
 lt:∀t,o.dst=some t->t<N
def kq {α:Type}{b:Bool}{e:Option α}{r:α}(h:(bif b then e else none)=some r):b=true/\e=some r:=by
 grind
def Gn {raw:Nat->Bool}{all:List Oper}:∀{l:List Oper} {k k':Nat} {xs:List eP},Pd P G raw N all l k=some (xs,k')->Pw (ť P G raw N all) l xs
 |[],k,k',xs,h=>by
  obtain⟨rfl,rfl⟩:=h;exact Pw.nil
 |o::r,k,k',xs,h=>by
  simp only[Pd]at h;split at h
  ·rename_i q as gd hq hgd;obtain⟨hd,h⟩:=kq h;split at h
   ·rename_i ys n hys;obtain⟨rfl,rfl⟩:=h;refine Pw.cons ⟨hq,hgd,rfl,fun t ht=>?_⟩ (Gn hys)
    simp_all
   ·simp at h
  ·simp at h
variable {ops:Array Oper} {raw:Nat->Bool}
def uI {x:eP}(ht:WY φ w S tm a)(hx:ť P G raw N ops.toList o x){b:Bool}(h:dE x tm=some b):Region.wanted o (yielded ops a.tmps)=b:=by
 have hg:=hx.gd;unfold dE at h;unfold Region.wanted;cases hgu:o.guard with
 |none=>
  rw[hgu]at hg;simp only[Gm,lβ]at hg;rw[<-hg]at h;simp at h;simp[h]
 |some p=>
  obtain⟨j,want⟩:=p;rw[hgu]at hg;simp only[Gm]at hg;split at hg
  ·rename_i oj hoj;split at hg
   ·rename_i dd hdd;simp only[lβ]at hg;rw[<-hg]at h;simp only at h;have hv:=ht dd;have hy:yielded ops a.tmps j=(match a.tmps[dd]? with|some (.bool b)=>some b|_=>none):=by
     unfold yielded;have:ops[j]?=some oj:=by simpa using hoj
     rw[this];simp only[Option.bind_some,hdd];rfl
    split at h
    ·rename_i b' hb';rw[hb']at hv;simp only[VR,PR]at hv;simp only[lβ]at h;subst h;have:a.tmps[dd]?=some (.bool b'):=by
      rw[Array.getD_eq_getD_getElem?]at hv;cases hc:a.tmps[dd]? with
      |none=>rw[hc]at hv;simp[undef]at hv
      |some u=>rw[hc]at hv;simp at hv;rw[hv]
     simp only[hy,this];cases b'<;>cases want<;>rfl
    ·rename_i hb';rw[hb']at hv;simp only[VR,O0]at hv;obtain⟨vs,hv,_⟩:=hv;simp only[lβ]at h;subst h;have:(match a.tmps[dd]? with|some (.bool b)=>some b|_=>none)=none:=by
      rw[Array.getD_eq_getD_getElem?]at hv;cases hc:a.tmps[dd]? with
      |none=>rfl
      |some u=>rw[hc]at hv;simp at hv;rw[hv]
     simp only[hy,this];rfl
    ·simp at h
   ·simp at hg
  ·simp at hg
def Lb {call:aw}{x:eP}{ft:eC}(h:rG call base x st=some (st',ft)):st.hp.length<=st'.hp.length:=by
 unfold rG at h;cases hmk:(!(ed x.op)||dq (aX st.hp (base+x.k)))with
 |false=>simp_all
 |true=>
  rw[hmk]at h;simp at h;split at h
  ·simp at h
  ·obtain⟨rfl,rfl⟩:=h;simp[jP,bJ]
def rB.skip (h:rB G N a φ w S st){d:Option Nat}(hd:EB d a):rB G N (a.put d undef) φ w S ⟨put d (.tup []) st.tm,st.hp⟩ where
 tmr:=Ry hd h.tmr (by exact⟨#[],rfl,by rfl⟩)
 gr:=h.gr
 hr:=h.hr
 size:=by have:=h.size;cases d<;>simpa[Act.put]using this
 defers:=by rw[<-h.defers];cases d<;>simp[Act.put]
def Later (G:bV)(N base:Nat)(φ:List cK)(w:World)(S:Nat->Prop)(st st':St)(a':Act)(w':World):Prop:=
 ∃φ' S',rB G N a' φ' w' S' st'/\Fr (bs φ st.hp) S w (bs φ' st'.hp) S' w'/\(∀id,id<base->φ'[id]?=φ[id]?)/\base<=st'.hp.length
def Qk {call:aw}(hcall:gA P G call){raw:Nat->Bool}{ops:Array Oper}{Q:Exit->Act->World->Prop}{stn:St}:∀{l:List Oper} {xs:List eP} {i:Nat} {st:St} {a:Act} {φ:List cK} {w:World} {S:Nat->Prop},(∀j o,l[j]?=some o->ops[i+j]?=some o)->Pw (ť P G raw N ops.toList) l xs->mK call base xs st=some stn->
  rB G N a φ w S st->base<=st.hp.length->(∀a' w',Later G N base φ w S st stn a' w'->Q .normal a' w')->wpOps P ops Q (List.range' i l.length) a w
 |[],xs,i,st,a,φ,w,S,hl,hx,hev,rel,hb,hQ=>by
  obtain rfl:=hx.nil_inv;simp only[mK,lβ]at hev;subst hev;exact hQ a w ⟨φ,S,rel,Fr.refl _ _ _,fun _ _=>rfl,hb⟩
 |o::r,xs,i,st,a,φ,w,S,hl,hx,hev,rel,hb,hQ=>by
  obtain⟨x,xr,rfl,hx1,hx2⟩:=hx.cons_inv;have ho:ops[i]?=some o:=by simpa using hl 0 o rfl
  have hl':∀j o',r[j]?=some o'->ops[i+1+j]?=some o':=fun j o' h=>by
   have:=hl (j+1) o' (by simp_all);grind
  rw[List.length_cons,List.range'_succ];simp only[wpOps,ho];simp only[mK]at hev;split at hev
  ·grind
  ·rename_i hgd;split at hev
   ·grind
   ·rename_i st1 ft hop;rw[if_pos (by rw[uI rel.tmr hx1 hgd])];refine .inl (aaX hcall rel hx1.op hx1.dst hx1.lt hb hop fun a' w' φ' S' rel' hf hφ=>?_);refine Qk hcall hl' hx2 hev rel' (mσ hb (Lb hop)) fun a2 w2 hlat=>hQ a2 w2 ?_
    obtain⟨φ2,S2,r1,r2,r3,r4⟩:=hlat;exact⟨φ2,S2,r1,hf.trans r2,fun id hid=>(r3 id hid).trans (hφ id hid),r4⟩
  ·rename_i hgd;rw[if_neg (by rw[uI rel.tmr hx1 hgd];simp)];have hd:EB o.dst a:=fun t ht=>mχ (hx1.lt t ht) rel.size
   rw[hx1.dst]at hev;exact Qk hcall hl' hx2 hev (rel.skip hd) hb hQ
def ac9 {call:aw}(hcall:gA P G call){id:Nat}{xs:List eP}{nal k:Nat}{Q:Exit->Act->World->Prop}{stn:St}{m:Nat}(hx:Pd P G raw N ops.toList ops.toList 0=some (xs,k))(hev:uy call nal xs none st=some stn)(rel:rB G N a φ w S st)(hm:m<=st.hp.length)(hQ:∀a' w',Later G N m φ w S st stn a' w'->Q .normal a' w'):(Code.region id ops false).wp P Q a w:=by
 refine wp_region ?_;rw[List.range_eq_range',<-Array.length_toList];have hlen:=rel.hr.len;refine Qk hcall (base:=st.hp.length) (fun j o h=>by simpa using h) (Gn hx) hev (rel.reserve nal) (by simp[jP]) fun a' w' hlat=>hQ a' w' ?_
 obtain⟨φ2,S2,r1,r2,r3,r4⟩:=hlat;refine⟨φ2,S2,r1,?_,fun id hid=>?_,mσ hm r4⟩
 ·refine Fr.trans (O1:=bs (φ++List.replicate nal .none) (grow st.hp (List.replicate nal .unborn))) (S1:=S) (w1:=w) ?_ r2;rw[jP];exact(Fr.refl _ _ _).less (rel.hr.reserve nal).2.1
 ·rw[r3 id (by omega),lκ (by omega)]
end
end
section
variable [Letters] [Mv]
def Vs (call:aw)(base:Nat)(x:eP)(st:St):Option (St×eC):=
 match dE x st.tm with
 |none=>none
 |some true=>rG call base x st
 |some false=>some (⟨put x.dst (.tup []) st.tm,st.hp⟩,⟨[],[],false,0⟩)
def xR:eC:=⟨[],[],false,0⟩
def Bc {call:aw}{base:Nat}:∀{xs:List eP} {st st':St} {fs fs':List eC},eN call base xs st fs=some (st',fs')->
  ∃(σ:Nat->St) (F:List eC),σ 0=st/\σ xs.length=st'/\fs'=fs.reverse++F/\F.length=xs.length/\∀(i:Nat) x,xs[i]?=some x->Vs call base x (σ i)=some (σ (i+1),F.getD i xR)
 |[],st,st',fs,fs',h=>by
  obtain⟨rfl,rfl⟩:=h;exact⟨fun _=>st,[],rfl,rfl,by simp,rfl,by simp⟩
 |x::r,st,st',fs,fs',h=>by
  simp only[eN]at h;have key:∀st1 f,Vs call base x st=some (st1,f)->eN call base r st1 (f::fs)=some (st',fs')->
    ∃(σ:Nat->St) (F:List eC),σ 0=st/\σ (x::r).length=st'/\fs'=fs.reverse++F/\F.length=(x::r).length/\∀(i:Nat) y,(x::r)[i]?=some y->Vs call base y (σ i)=some (σ (i+1),F.getD i xR):=by
   intro st1 f h1 h2;obtain⟨σ,F,g1,g2,g3,g4,g5⟩:=Bc h2;refine⟨fun i=>match i with|0=>st|i+1=>σ i,f::F,rfl,g2,by simp_all,by simp[g4],fun i y hy=>?_⟩
   grind
  split at h
  ·simp at h
  ·rename_i hg;split at h
   ·simp at h
   ·rename_i st1 f hop;exact key st1 f (by simp[Vs,hg,hop]) h
  ·rename_i hg;exact key _ _ (by simp[Vs,hg]) h
def Se:∀{a b:List (Int×Int×Int)},Vp a b=true->a=b
 |[],[],_=>rfl
 |[],_::_,h=>by simp[Vp]at h
 |_::_,[],h=>by simp[Vp]at h
 |(a,l,h)::r,(b,m,i)::s,hh=>by
  simp only[Vp,lγ,lQ,beq_iff_eq]at hh;obtain⟨rfl,rfl,rfl,h4⟩:=hh;rw[Se h4]
def Ϧ {a b:Sy}(h:acl a b=true):a=b:=by
 cases a<;>cases b<;>simp only[acl,lγ,lQ,beq_iff_eq,Bool.false_eq_true]at h
 ·rw[h.1,Se h.2]
 ·simp_all
mutual
def Po:∀(a b:Da),Gz a b=true->a=b
 | .bool a,b,h=>by cases b<;>simp_all [Gz]
 | .int i a,b,h=>by cases b<;>simp_all [Gz,lQ]
 | .str a,b,h=>by cases b<;>simp_all [Gz,Px]
 | .agg a,b,h=>by
  cases b<;>simp only[Gz,Bool.false_eq_true]at h;rw[eM _ _ h]
 | .slice z a,b,h=>by
  cases b<;>simp only[Gz,Bool.false_eq_true,lγ]at h;rw[lη h.1,eM _ _ h.2]
 | .nilptr,b,h=>by cases b<;>simp_all [Gz]
 | .ptr a,b,h=>by
  cases b<;>simp only[Gz,Bool.false_eq_true]at h;rw[Po _ _ h]
 | .map a b,c,h=>by
  cases c<;>simp only[Gz,Bool.false_eq_true,lγ]at h;rw[eM _ _ h.1,eM _ _ h.2]
 | .nilmap,b,h=>by cases b<;>simp_all [Gz]
 | .fn f a,b,h=>by
  cases b<;>simp only[Gz,Bool.false_eq_true,lγ]at h;rw[lη h.1,eM _ _ h.2]
 | .nilfn,b,h=>by cases b<;>simp_all [Gz]
 | .iface t x,b,h=>by cases b<;>simp[Gz]at h
 | .nilif,b,h=>by cases b<;>simp[Gz]at h
 | .sliceE z es,b,h=>by cases b<;>simp[Gz]at h
 | .sym i a,b,h=>by
  cases b<;>simp only[Gz,Bool.false_eq_true,lγ,lδ]at h;rw[h.1,Ϧ h.2]
def eM:∀(a b:LD),oM a b=true->a=b
 |[],[],_=>rfl
 |[],_::_,h=>by simp[oM]at h
 |_::_,[],h=>by simp[oM]at h
 |x::a,y::b,h=>by
  simp only[oM,lγ]at h;rw[Po _ _ h.1,eM _ _ h.2]
end
mutual
def acj:∀(a b:D),Pp a b=true->a=b
 | .p a,b,h=>by
  cases b<;>simp only[Pp,Bool.false_eq_true]at h;rw[Po _ _ h]
 | .agg a,b,h=>by
  cases b<;>simp only[Pp,Bool.false_eq_true]at h;rw[uv _ _ h]
 | .tup _,b,h=>by cases b<;>simp[Pp]at h
 | .box i o,b,h=>by
  cases b<;>simp only[Pp,Bool.false_eq_true,lγ]at h;rw[lη h.1,lη h.2]
 | .el _ _ _,b,h=>by cases b<;>simp[Pp]at h
 | .ip _ _,b,h=>by cases b<;>simp[Pp]at h
 | .arr i x y z,b,h=>by
  cases b<;>simp only[Pp,Bool.false_eq_true,lγ]at h;rw[lη h.1,lη h.2.1,lη h.2.2.1,lη h.2.2.2]
 | .sl g z a,b,h=>by
  cases b with
  |sl g2 y b=>
   cases g<;>cases g2<;>simp only[Pp,Bool.false_eq_true,lγ]at h
   ·rw[lη h.1,eM _ _ h.2]
   ·rw[lη h.1,eM _ _ h.2]
  |_=>cases g<;>simp[Pp]at h
 | .map i,b,h=>by
  cases b<;>simp only[Pp,Bool.false_eq_true]at h;rw[lη h]
 | .fn f a,b,h=>by
  cases b<;>simp only[Pp,Bool.false_eq_true,lγ]at h;rw[lη h.1,uv _ _ h.2]
 | .iface _ _,b,h=>by cases b<;>simp[Pp]at h
 | .junk,b,h=>by cases b<;>simp[Pp]at h
def uv:∀(a b:List D),GA a b=true->a=b
 |[],[],_=>rfl
 |[],_::_,h=>by simp[GA]at h
 |_::_,[],h=>by simp[GA]at h
 |x::a,y::b,h=>by
  simp only[GA,lγ]at h;rw[acj _ _ h.1,uv _ _ h.2]
end
def ϥ {a b:Ob}(h:Vq a b=true):a=b:=by
 cases a<;>cases b<;>simp only[Vq,Bool.false_eq_true,lγ]at h
 ·rw[uv _ _ h]
 ·rw[eM _ _ h]
 ·rw[eM _ _ h]
 ·rw[eM _ _ h.1,eM _ _ h.2]
 ·rw[eM _ _ h.1,eM _ _ h.2]
 ·rw[eM _ _ h.1,uv _ _ h.2]
def EJ {i:Nat}:∀{l:LN},Bl i l=true->i∈l
 |[],h=>by cases h
 |j::r,h=>by
  simp only[Bl]at h;rw[beq_eq]at h;by_cases hj:j=i
  ·simp_all
  ·simp only[hj,cond_false]at h;exact mω _ (EJ h)
def xp {ids:LN}{hp:List Ob}{id:Nat}:∀{ups:List (Nat×Ob)} {cur:List Ob},(id∈ids->cur[id]?=hp[id]?)->id∉mU ids hp ups->(ar cur ups)[id]?=cur[id]?
 |[],cur,_,_=>rfl
 |(i,o)::r,cur,hc,h=>by
  simp only[ar,bY];simp only[mU]at h;have step:(cur.set i o)[id]?=cur[id]?/\id∉mU ids hp r:=by
   cases hq:Bl i ids&&Vq (aX hp i) o
   ·simp only[hq,cond_false,mα,not_or]at h;exact⟨by rw[mψ (fun e=>h.1 e.symm)],h.2⟩
   ·simp only[hq,cond_true]at h;refine⟨?_,h⟩;by_cases hi:i=id
    ·subst hi;rw[lγ]at hq;have he:=ϥ hq.2;have hcc:=hc (EJ hq.1);rw[List.getElem?_set,if_pos rfl];cases hx:hp[i]? with
     |none=>
      rw[hx]at hcc;rw[hcc];rw[if_neg];intro hlt;rw[lθ hlt]at hcc;cases hcc
     |some x=>
      rw[hx]at hcc;have hlt:i<cur.length:=by
       rcases lυ i cur.length with h1|h1
       ·exact h1
       ·rw[lξ h1]at hcc;cases hcc
      rw[if_pos hlt,hcc,<-he,Hy hx]
    ·rw[mψ hi]
  rw[xp (fun hm=>step.1.trans (hc hm)) step.2,step.1]
def pi:∀{ups:List (Nat×Ob)} {hp hp2:List Ob} {id:Nat},hp2[id]?=hp[id]?->(ar hp2 ups)[id]?=(ar hp ups)[id]?
 |[],hp,hp2,id,h=>h
 |(i,o)::r,hp,hp2,id,h=>by
  simp only[ar,bY];refine pi ?_;grind
def wr_iff {f:eC}{id:Nat}:wr f id=true↔id∈f.ws\/(f.grow=true/\f.lim<=id):=by
 simp[wr,ble_eq]
variable {q:O} {vs:List D} {ids:LN} {obs:List Ob} {len':Nat} {ups:List (Nat×Ob)}
def RD {call:aw}{base:Nat}{k:Nat}{len:Nat}{d:D}(h:rD call base q k vs ids obs len=some (d,ups,[])):rD call base q k vs ids obs len'=some (d,ups,[]):=by
 have key:∀{f:Nat} {args:List D},fq call f args ids obs len=some (d,ups,[])->fq call f args ids obs len'=some (d,ups,[]):=by
  intro f args h;unfold fq at h ⊢
  split at h
  ·simp at h
  ·rename_i r out hc;obtain⟨hle,h⟩:=kq h;simp only[hle,cond_true];simp at h;have hb:back ids.length len ids out.length=back ids.length len' ids out.length:=by
    funext k
    unfold back;rw[blt_eq,blt_eq];grind
   simp_all
 cases q<;>simp only[rD]at h ⊢ <;>first
  |exact h
  |grind
  |(
    unfold YG at h ⊢
    grind)
def close_congr {hp hp2:List Ob}:∀{n:Nat} {ws acc:LN},(∀id∈close hp n ws acc,hp2[id]?=hp[id]?)->close hp2 n ws acc=close hp n ws acc
 |0,ws,acc,h=>by rfl
 |n+1,[],acc,h=>by rfl
 |n+1,id::ws,acc,h=>by
  simp only[close]at h ⊢
  split
  ·rename_i hc;rw[if_pos hc]at h;exact close_congr h
  ·rename_i hc;rw[if_neg hc]at h;have hid:hp2[id]?=hp[id]?:=by
    obtain⟨r,hr⟩:=close_prefix (hp:=hp) n (ky (hp.getD id .dead)++ws) (acc++[id]);grind
   have hob:hp2.getD id .dead=hp.getD id .dead:=by simp_all
   rw[hob];exact close_congr h
where
 close_prefix {hp:List Ob}:∀(n:Nat) (ws acc:LN),acc <+: close hp n ws acc
  |0,ws,acc=>by simp only[close];simp
  |n+1,[],acc=>by simp only[close];simp
  |n+1,id::ws,acc=>by
   simp only[close];split
   ·exact close_prefix n ws acc
   ·exact(List.prefix_append _ _).trans (close_prefix n _ _)
variable {hp2:List Ob}
def sZ {hp:List Ob}(h:∀id∈bM q vs hp,hp2[id]?=hp[id]?):bM q vs hp2=bM q vs hp:=by
 cases q<;>simp only[bM]at h ⊢ <;>exact close_congr h
variable {x:eP} {tm tm2:Tm}
def Ld (h:∀t∈je x,get tm2 t=get tm t):x.as.map (ev tm2)=x.as.map (ev tm):=by
 apply List.map_congr_left;intro y hy;cases y with
 |t n=>
  refine h n ?_;simp only[je,List.mem_filterMap];grind
 |_=>rfl
def Lr (h:∀t∈je x,get tm2 t=get tm t):dE x tm2=dE x tm:=by
 unfold dE;cases hg:x.gd with
 |none=>rfl
 |some p=>
  obtain⟨g,want⟩:=p;simp;rw[h g (by simp[je,hg])]
def ô {hp:List Ob}(h:∀id∈ids,hp2[id]?=hp[id]?):ids.map (aX hp2)=ids.map (aX hp):=by
 apply List.map_congr_left;intro id hid;simp[aX,h id hid]
structure Did (x:eP)(st st1:St)(f:eC)(st2 st2':St):Prop where
 tm1:∀t,x.dst=some t->get st2'.tm t=get st1.tm t
 tm0:∀t,x.dst≠some t->get st2'.tm t=get st2.tm t
 hp1:∀id,wr f id=true->st2'.hp[id]?=st1.hp[id]?
 hp0:∀id,wr f id=false->st2'.hp[id]?=st2.hp[id]?
 len1:f.grow=true->st2'.hp.length=st1.hp.length
 len0:f.grow=false->st2'.hp.length=st2.hp.length
def MV {d:Option Nat}{v:D}{t:Nat}(h:d=some t):get (put d v tm2) t=get (put d v tm) t:=by
 rw[uE,uE,if_pos h,if_pos h]
variable {f:Nat}
def qy {call:aw}{m:Nat}{len:Nat}{d:D}{args:List D}(h:lh call f args m ids obs len=some (d,ups,[])):lh call f args m ids obs len'=some (d,ups,[]):=by
 unfold lh at h ⊢
 split at h
 ·simp at h
 ·rename_i r out hc;obtain⟨hle,h⟩:=kq h;simp only[hle,cond_true];simp at h;have hb:back m len ids out.length=back m len' ids out.length:=by
   funext k
   unfold back;rw[blt_eq,blt_eq];grind
  simp_all
def sM {call:aw}{len:Nat}{d:D}{args:List D}(h:fq call f args ids obs len=some (d,ups,[])):fq call f args ids obs len'=some (d,ups,[]):=by
 rw[EA]at h ⊢
 exact qy h
def YI {call:aw}{base:Nat}{k:Nat}{len:Nat}{d:D}(h:wo call base q k vs ids obs len=some (d,ups,[])):wo call base q k vs ids obs len'=some (d,ups,[]):=by
 cases hq:ea q
 ·rw[AM hq]at h ⊢
  exact RD h
 ·cases q<;>first
   |(simp[ea]at hq;done)
   |(
     simp only[wo,qt]at h ⊢
     revert h
     cases Mv.mv _<;>intro h
     ·exact sM h
     ·exact qy h)
   |(
     simp only[wo,AY]at h ⊢
     split at h
     ·revert h
      cases Mv.mv _<;>intro h
      ·exact sM h
      ·cases h
     ·unfold qt at h ⊢
      revert h
      cases Mv.mv _<;>intro h
      ·exact sM h
      ·exact qy h
     ·cases h)
   |exact RD (call:=call) (q:= .clone) (len:=len) (len':=len') h
def BQ {raw:Bool}{hp:List Ob}(h:∀id∈dU (.call f raw) vs hp,hp2[id]?=hp[id]?):dU (.call f raw) vs hp2=dU (.call f raw) vs hp:=by
 simp only[dU,sT]at h ⊢
 revert h
 cases Mv.mv f<;>intro h
 ·exact close_congr h
 ·have hd:((lP (dids.didsL vs) []).flatMap fun i=>ky (aX hp2 i))=(lP (dids.didsL vs) []).flatMap fun i=>ky (aX hp i):=by
   have key:∀i∈lP (dids.didsL vs) [],aX hp2 i=aX hp i:=fun i hi=>by
    have:=h i ((close_congr.close_prefix _ _ _).subset hi);simp[aX,this]
   generalize lP (dids.didsL vs) []=l at key ⊢
   induction l with
   |nil=>rfl
   |cons a r ih=>
    simp only[List.flatMap_cons];rw[key a (mπ ..),ih fun i hi=>key i (mω _ hi)]
  rw[hd];exact close_congr h
def Mc {hp:List Ob}(h:∀id∈rZ vs hp,hp2[id]?=hp[id]?):rZ vs hp2=rZ vs hp:=by
 unfold rZ at h ⊢
 split at h
 ·rename_i f caps args;revert h;cases hm:Mv.mv (IK f)<;>intro h
  ·exact sZ (q:= .callv) h
  ·exact BQ (f:=IK f) (raw:=false) h
 ·exact sZ (q:= .callv) h
def Mb {hp:List Ob}(h:∀id∈dU q vs hp,hp2[id]?=hp[id]?):dU q vs hp2=dU q vs hp:=by
 cases hq:ea q
 ·rw[nI hq]at h;rw[nI hq,nI hq];exact sZ h
 ·cases q<;>first
   |rfl
   |exact BQ h
   |exact Mc h
   |rfl
def ra {call:aw}{base:Nat}{st st1:St}{f:eC}(h:Vs call base x st=some (st1,f)){st2:St}(ha:∀t∈je x,get st2.tm t=get st.tm t)(hb:∀id,id∈f.rs\/id∈f.ws->st2.hp[id]?=st.hp[id]?)(hc:f.grow=true->st2.hp.length=st.hp.length):
  ∃st2' f',Vs call base x st2=some (st2',f')/\Did x st st1 f st2 st2':=by
 unfold Vs at h ⊢
 rw[Lr ha];split at h
 ·simp at h
 ·rename_i hg;unfold rG at h;simp only at h;obtain⟨hmk,h⟩:=kq h;split at h
  ·simp at h
  ·rename_i d ups new hact;simp only[lβ,lψ]at h;obtain⟨rfl,rfl⟩:=h;simp only at hb hc;have hids:∀id∈dU x.op (x.as.map (ev st.tm)) st.hp,st2.hp[id]?=st.hp[id]?:=fun id hid=>hb id (.inl (by cases ed x.op<;>simp[hid]))
   have hn:dU x.op (x.as.map (ev st2.tm)) st2.hp=dU x.op (x.as.map (ev st.tm)) st.hp:=by rw[Ld ha];exact Mb hids
   have hmk2:(!(ed x.op)||dq (aX st2.hp (base+x.k)))=true:=by
    cases hm:ed x.op with
    |false=>rfl
    |true=>
     rw[hm]at hmk;have:aX st2.hp (base+x.k)=aX st.hp (base+x.k):=by
      simp only[aX,lω];rw[hb (base+x.k) (.inl (by rw[hm];simp))]
     rw[this];exact hmk
   have hact2:wo call base x.op x.k (x.as.map (ev st2.tm)) (dU x.op (x.as.map (ev st2.tm)) st2.hp) ((dU x.op (x.as.map (ev st2.tm)) st2.hp).map (aX st2.hp)) st2.hp.length=some (d,ups,new):=by
    rw[hn,Ld ha,ô hids];cases new with
    |nil=>exact YI hact
    |cons o r=>rw[hc rfl];exact hact
   refine⟨⟨put x.dst d st2.tm,grow (ar st2.hp ups) new⟩,_,by unfold rG;simp only[hmk2,cond_true,hact2];rfl,?_⟩
   have hle:∀hp:List Ob,(grow (ar hp ups) new).length=hp.length+new.length:=fun hp=>by simp[jP,bJ]
   have hwr:∀id,wr ⟨bif ed x.op then(base+x.k)::dU x.op (x.as.map (ev st.tm)) st.hp else dU x.op (x.as.map (ev st.tm)) st.hp,mU (dU x.op (x.as.map (ev st.tm)) st.hp) st.hp ups,!new.isEmpty,st.hp.length⟩ id=true->(grow (ar st2.hp ups) new)[id]?=(grow (ar st.hp ups) new)[id]?:=by
    intro id hw;rw[wr_iff]at hw;simp only at hw;rw[jP,jP];cases new with
    |nil=>
     simp only[lν];have hw':=hw.resolve_right (by simp);exact pi (hb id (.inr hw'))
    |cons o r=>
     have hl:=hc rfl;rcases lυ id st.hp.length with h1|h1
     ·have hw':=hw.resolve_right (by simp;omega);rw[lκ (by rw[bJ];omega),lκ (by rw[bJ];exact h1)];exact pi (hb id (.inr hw'))
     ·rw[lτ (by rw[bJ];omega),lτ (by rw[bJ];exact h1),bJ,bJ,hl]
   refine⟨fun t ht=>MV ht,fun t ht=>by simp only;rw[uE,if_neg ht],hwr,fun id hw=>?_,fun hg'=>?_,fun hg'=>?_⟩
   ·have hw':¬(id∈mU (dU x.op (x.as.map (ev st.tm)) st.hp) st.hp ups\/((!new.isEmpty)=true/\st.hp.length<=id)):=fun hh=>by
     have:=wr_iff (f:=⟨bif ed x.op then(base+x.k)::dU x.op (x.as.map (ev st.tm)) st.hp else dU x.op (x.as.map (ev st.tm)) st.hp,mU (dU x.op (x.as.map (ev st.tm)) st.hp) st.hp ups,!new.isEmpty,st.hp.length⟩).2 hh
     rw[hw]at this;simp at this
    simp only[not_or]at hw';simp only[jP];cases new with
    |nil=>rw[lν];exact xp (hids id) hw'.1
    |cons o r=>
     have hl:=hc rfl;have:id<st.hp.length:=by
      have:=hw'.2;simp at this;omega
     rw[lκ (by rw[bJ];omega)];exact xp (hids id) hw'.1
   ·simp only[hle];rw[hc hg']
   ·simp only[hle];have:new=[]:=by simpa using hg'
    simp[this]
 ·rename_i hg;simp only[lβ,lψ]at h;obtain⟨rfl,rfl⟩:=h;exact⟨_,_,rfl,fun t ht=>MV ht,fun t ht=>by simp only;rw[uE,if_neg ht],by intro id hw;simp[wr]at hw,fun _ _=>rfl,by intro hh;simp at hh,fun _=>rfl⟩
def Æ {call:aw}{base:Nat}{st st1:St}{f:eC}(h:Vs call base x st=some (st1,f))(hh:fB x.op=false):f.rs=[]/\f.ws=[]/\f.grow=false:=by
 unfold Vs at h;split at h
 ·simp at h
 ·unfold rG at h;simp only at h;obtain⟨hmk,h⟩:=kq h;split at h
  ·simp at h
  ·rename_i d ups new hact;simp only[lβ,lψ]at h;obtain⟨rfl,rfl⟩:=h;have hnc:ea x.op=false:=by
    cases hq:x.op<;>rw[hq]at hh<;>simp[fB]at hh<;>rfl
   rw[AM hnc]at hact;have hval:∀{e:D},val e=some (d,ups,new)->ups=[]/\new=[]:=fun he=>(Iz he).2
   have hvalP:∀{e:Option Da},mh e=some (d,ups,new)->ups=[]/\new=[]:=fun he=>by obtain⟨_,_,_,h1,h2⟩:=NJ he;exact⟨h1,h2⟩
   have key:ups=[]/\new=[]:=by
    clear hnc;generalize dU x.op (x.as.map (ev st.tm)) st.hp=ids0 at hact;generalize x.as.map (ev st.tm)=vs at hact;generalize x.op=q at hact hh;cases q<;>simp only[fB,reduceCtorEq,Bool.true_eq_false]at hh;all_goals simp only[rD]at hact
    all_goals first
     |(simp at hact;done)
     |(cases hact;done)
     |(unfold aMv at hact)
     |(unfold Ee at hact)
     |(unfold sF at hact)
     |(unfold sG at hact;simp only[cond_eq_ite]at hact)
     |(unfold F9 at hact)
     |(unfold YB at hact)
     |(unfold YC at hact)
     |(unfold Ed at hact)
     |(unfold aUn at hact)
     |(unfold RA at hact)
     |(unfold RC at hact)
     |(unfold aal at hact)
     |(unfold Kc at hact)
     |(unfold O5 at hact;simp only[cond_eq_ite]at hact)
     |(unfold oF at hact)
     |(unfold aan at hact)
     |(unfold abC at hact;simp only[cond_eq_ite]at hact)
     |(unfold nv at hact;rw[qβ]at hh;obtain⟨rfl,hh⟩:=hh;simp only[hh,Bool.false_and,cond_eq_ite,Bool.false_eq_true,if_false]at hact)
     |(unfold aFa at hact)
     |(unfold J9 at hact)
     |(unfold RB at hact;simp only[cond_eq_ite]at hact)
     |(unfold Ka at hact;simp only[cond_eq_ite]at hact)
     |(unfold ż at hact)
     |(unfold O4 at hact)
     |(unfold adC at hact)
     |(unfold aak at hact)
     |(unfold Kb at hact)
     |(unfold J8 at hact;simp only[cond_eq_ite]at hact)
     |(unfold abB at hact)
     |(unfold adE at hact)
     |(unfold sH at hact;simp only[cond_eq_ite]at hact)
     |skip
    all_goals (repeat' split at hact)
    all_goals first
     |(simp at hact;done)
     |exact hval hact
     |exact hvalP hact
   obtain⟨rfl,rfl⟩:=key;have hm:ed x.op=false:=by
    cases hq:x.op<;>rw[hq]at hh<;>simp[fB]at hh<;>rfl
   have hn:dU x.op (x.as.map (ev st.tm)) st.hp=[]:=by
    rw[nI hnc];clear hnc;cases hq:x.op<;>rw[hq]at hh<;>simp only[fB,reduceCtorEq,Bool.true_eq_false]at hh<;>first
     |rfl
     |(simp only[bM,hh,cond_false])
   rw[hm,hn];exact⟨rfl,rfl,rfl⟩
 ·simp only[lβ,lψ]at h;obtain⟨_,rfl⟩:=h;exact⟨rfl,rfl,rfl⟩
end
section
variable [Letters] [Mv]
def nP (o:Oper):LN:=(o.after.toList.filter oI).map (·.on)
def uu:∀{l:List Oper} {n:Nat},jD l n=true->∀(j:Nat) o,l[j]?=some o->∀d∈nP o,d<n+j
 |[],n,h,j,o,ho,d,hd=>by grind
 |x::r,n,h,j,o,ho,d,hd=>by
  simp only[jD,lγ,lσ]at h;cases j with
  |zero=>
   simp at ho;subst ho;simp only[nP,List.mem_map,List.mem_filter]at hd;obtain⟨e,⟨he,hb⟩,rfl⟩:=hd;have:=h.1 e he;simp_all
  |succ j=>
   have:=uu h.2 j o (by simp_all) d hd;omega
def RG:∀(l:List Oper) (acc:List LN),∃r,Do l acc=acc++r/\r.length=l.length/\
  ∀(j:Nat) o,l[j]?=some o->∀x∈(Do l acc).getD (acc.length+j) [],x∈nP o\/∃d∈nP o,d<acc.length+j/\x∈(Do l acc).getD d []
 |[],acc=>⟨[],by simp[Do],rfl,by simp⟩
 |o::r,acc=>by
  simp only[Do];obtain⟨q,h1,h2,h3⟩:=RG r (acc++[(((o.after.toList.filter oI).map (·.on))++((o.after.toList.filter oI).map (·.on)).flatMap fun d=>acc.getD d []).eraseDups]);refine⟨_::q,by rw[h1];simp;rfl,by simp[h2],fun j o' ho x hx=>?_⟩
  cases j with
  |zero=>
   simp at ho;subst ho;rw[h1]at hx;simp only[Nat.add_zero,lω,lε,lτ (Nat.le_refl _),Nat.sub_self,List.singleton_append,List.getElem?_cons_zero,Option.getD_some,List.mem_eraseDups,mγ,List.mem_flatMap]at hx;rcases hx with hx|⟨d,hd,hx⟩
   ·exact .inl hx
   ·have hlt:d<acc.length:=by
     grind
    refine .inr ⟨d,hd,by omega,?_⟩
    grind
  |succ j=>
   have:=h3 j o' (by simp_all) x (by
    grind)
   grind
def B7 {xs:List eP}{an:LN}{x:eP}{n:Nat}:∀{l:LN} {ps:List (Nat×Nat)},zE xs an x n l=some ps->∀i∈l,i∈an\/∃y,xs[i]?=some y/\vR y x=true/\((fB y.op&&fB x.op)=true->(i,n)∈ps)
 |[],ps,h,i,hi=>by grind
 |k::r,ps,h,i,hi=>by
  simp only[zE]at h;split at h
  ·simp at h
  ·rename_i qs hqs;have ih:=B7 hqs;grind
def xV {xs:List eP}{an:List LN}:∀{l:LN} {ps:List (Nat×Nat)},nM xs an l=some ps->∀n∈l,∃x a,xs[n]?=some x/\an[n]?=some a/\∀i,i<n->i∈a\/∃y,xs[i]?=some y/\vR y x=true/\((fB y.op&&fB x.op)=true->(i,n)∈ps)
 |[],ps,h,n,hn=>by grind
 |k::r,ps,h,n,hn=>by
  simp only[nM]at h;split at h
  ·rename_i x a hx ha;split at h
   ·rename_i p1 p2 h1 h2;simp at h;subst h;rcases mα.1 hn with rfl|hn
    ·refine⟨x,a,hx,ha,fun i hi=>?_⟩
     rcases B7 h1 i (by simp_all)with h|⟨y,g1,g2,g3⟩;all_goals simp_all
    ·obtain⟨x',a',g1,g2,g3⟩:=xV h2 n hn;grind
   ·simp at h
  ·simp at h
def xH {fs:List eC}:∀{ps:List (Nat×Nat)},fV fs ps=true->∀i j,(i,j)∈ps->mH (fs.getD i xR) (fs.getD j xR)=true
 |[],h,i,j,hm=>by grind
 |(p,q)::r,h,i,j,hm=>by
  simp only[fV]at h;split at h
  ·rw[lγ]at h;rcases mα.1 hm with he|hm
   ·simp_all
   ·exact xH h.2 i j hm
  ·simp at h
structure W3 (x y:eP)(f g:eC):Prop where
 t1:∀d,x.dst=some d->d∉je y
 t2:∀d,x.dst=some d->y.dst≠some d
 t3:∀d,y.dst=some d->d∉je x
 r1:∀id,id∈g.rs\/id∈g.ws->wr f id=false
 r2:∀id,id∈f.rs\/id∈f.ws->wr g id=false
 gg:¬(f.grow=true/\g.grow=true)
def QU {x y:eP}(h:vR x y=true):(∀d,x.dst=some d->d∉je y)/\(∀d,x.dst=some d->y.dst≠some d)/\(∀d,y.dst=some d->d∉je x):=by
 unfold vR at h;rw[lγ]at h;refine⟨fun d hd=>?_,fun d hd=>?_,fun d hd=>?_⟩
 ·simp_all
 ·have:=h.1;rw[hd]at this;intro he;simp_all
 all_goals simp_all
def YN {f g:eC}(h:mH f g=true):(∀id,id∈g.rs\/id∈g.ws->wr f id=false)/\(∀id,id∈f.rs\/id∈f.ws->wr g id=false)/\¬(f.grow=true/\g.grow=true):=by
 unfold mH at h;grind
structure sx (call:aw)(base:Nat)(ops:List Oper)(xs:List eP)(an:List LN)(σ:Nat->St)(F:Nat->eC):Prop where
 len:ops.length=xs.length
 step:∀(i:Nat) x,xs[i]?=some x->Vs call base x (σ i)=some (σ (i+1),F i)
 back:∀(j:Nat) o,ops[j]?=some o->∀d∈nP o,d<j
 anc:∀(j:Nat) o,ops[j]?=some o->∀x∈an.getD j [],x∈nP o\/∃d∈nP o,d<j/\x∈an.getD d []
 pair:∀(i j:Nat) x y,i<j->xs[i]?=some x->xs[j]?=some y->i∈an.getD j []\/W3 x y (F i) (F j)
def J_ {call:aw}{base:Nat}{ops:List Oper}{xs:List eP}{ps:List (Nat×Nat)}{st st':St}{fs:List eC}(hl:ops.length=xs.length)(hb:jD ops 0=true)(hp:nM xs (Do ops []) (List.range xs.length)=some ps)(hev:eN call base xs st []=some (st',fs))(ha:fV fs ps=true):
  ∃σ F,σ 0=st/\σ xs.length=st'/\sx call base ops xs (Do ops []) σ F:=by
 obtain⟨σ,fl,h1,h2,h3,h4,h5⟩:=Bc hev;subst h3;refine⟨σ,fun i=>fs.getD i xR,h1,h2,hl,h5,fun j o ho d hd=>by have:=uu hb j o ho d hd;omega,?_,?_⟩
 ·obtain⟨r,g1,g2,g3⟩:=RG ops [];simp_all
 ·intro i j x y hij hx hy;have hj:j<xs.length:=by
   grind
  obtain⟨y',a,q1,q2,q3⟩:=xV hp j (by simp_all);rw[hy]at q1;simp at q1;subst q1;rcases q3 i hij with h|⟨x',p1,p2,p3⟩
  ·simp_all
  ·rw[hx]at p1;simp at p1;subst p1;obtain⟨t1,t2,t3⟩:=QU p2;right;cases hh:(fB x.op&&fB y.op)with
   |true=>
    obtain⟨r1,r2,gg⟩:=YN (xH ha i j (p3 hh));exact⟨t1,t2,t3,r1,r2,gg⟩
   |false=>
    have idle:∀{k:Nat} {z:eP},xs[k]?=some z->fB z.op=false->(fs.getD k xR).rs=[]/\(fs.getD k xR).ws=[]/\(fs.getD k xR).grow=false:=fun hz hh=>Æ (h5 _ _ hz) hh
    rw[Bool.and_eq_false_iff]at hh;rcases hh with hh|hh
    ·obtain⟨a1,a2,a3⟩:=idle hx hh;exact⟨t1,t2,t3,fun id _=>by simp only[wr,a2,a3];simp,fun id hid=>by simp_all,fun hg=>by simp_all⟩
    ·obtain⟨a1,a2,a3⟩:=idle hy hh;exact⟨t1,t2,t3,fun id hid=>by simp_all,fun id _=>by simp only[wr,a2,a3];simp,fun hg=>by simp_all⟩
section
variable {call:aw} {base:Nat} {ops:List Oper} {xs:List eP} {an:List LN} {σ:Nat->St} {F:Nat->eC}
def wrT (xs:List eP)(j t:Nat):Prop:=∃x,xs[j]?=some x/\x.dst=some t
def wrH (xs:List eP)(F:Nat->eC)(j id:Nat):Prop:=j<xs.length/\wr (F j) id=true
def wrL (xs:List eP)(F:Nat->eC)(j:Nat):Prop:=j<xs.length/\(F j).grow=true
def sx.stillT (p:sx call base ops xs an σ F){t:Nat}{m:Nat}:∀(k:Nat),m+k<=xs.length->(∀j,m<=j->j<m+k->¬wrT xs j t)->get (σ (m+k)).tm t=get (σ m).tm t
 |0,_,_=>rfl
 |k+1,hle,h=>by
  rw[<-p.stillT k (by omega) fun j h1 h2=>h j h1 (by omega)];have hx:xs[m+k]?=some xs[m+k]:=lθ (by omega);obtain⟨st2',f',h1,h2⟩:=ra (p.step _ _ hx) (st2:=σ (m+k)) (fun _ _=>rfl) (fun _ _=>rfl) (fun _=>rfl);rw[p.step _ _ hx]at h1;simp only[lβ,lψ]at h1;obtain⟨rfl,rfl⟩:=h1;exact h2.tm0 t fun e=>h (m+k) (by omega) (by omega) ⟨_,hx,e⟩
def sx.stillH (p:sx call base ops xs an σ F){id:Nat}{m:Nat}:∀(k:Nat),m+k<=xs.length->(∀j,m<=j->j<m+k->¬wrH xs F j id)->(σ (m+k)).hp[id]?=(σ m).hp[id]?
 |0,_,_=>rfl
 |k+1,hle,h=>by
  rw[<-p.stillH k (by omega) fun j h1 h2=>h j h1 (by omega)];have hx:xs[m+k]?=some xs[m+k]:=lθ (by omega);obtain⟨st2',f',h1,h2⟩:=ra (p.step _ _ hx) (st2:=σ (m+k)) (fun _ _=>rfl) (fun _ _=>rfl) (fun _=>rfl);rw[p.step _ _ hx]at h1;obtain⟨rfl,rfl⟩:=h1;refine h2.hp0 id ?_;cases hw:wr (F (m+k)) id with
  |false=>rfl
  |true=>exact absurd ⟨by omega,hw⟩ (h (m+k) (by omega) (by omega))
def sx.stillL (p:sx call base ops xs an σ F){m:Nat}:∀(k:Nat),m+k<=xs.length->(∀j,m<=j->j<m+k->¬wrL xs F j)->(σ (m+k)).hp.length=(σ m).hp.length
 |0,_,_=>rfl
 |k+1,hle,h=>by
  rw[<-p.stillL k (by omega) fun j h1 h2=>h j h1 (by omega)];have hx:xs[m+k]?=some xs[m+k]:=lθ (by omega);obtain⟨st2',f',h1,h2⟩:=ra (p.step _ _ hx) (st2:=σ (m+k)) (fun _ _=>rfl) (fun _ _=>rfl) (fun _=>rfl);rw[p.step _ _ hx]at h1;obtain⟨rfl,rfl⟩:=h1;refine h2.len0 ?_;cases hw:(F (m+k)).grow with
  |false=>rfl
  |true=>exact absurd ⟨by omega,hw⟩ (h (m+k) (by omega) (by omega))
structure Inv (xs:List eP)(σ:Nat->St)(F:Nat->eC)(X:Nat->Prop)(st:St):Prop where
 T:∀m,m<=xs.length->∀t,(∀j,j<m->wrT xs j t->X j)->(∀j,m<=j->wrT xs j t->¬X j)->get st.tm t=get (σ m).tm t
 H:∀m,m<=xs.length->∀id,(∀j,j<m->wrH xs F j id->X j)->(∀j,m<=j->wrH xs F j id->¬X j)->st.hp[id]?=(σ m).hp[id]?
 L:∀m,m<=xs.length->(∀j,j<m->wrL xs F j->X j)->(∀j,m<=j->wrL xs F j->¬X j)->st.hp.length=(σ m).hp.length
def sx.start (p:sx call base ops xs an σ F):Inv xs σ F (fun _=>False) (σ 0) where
 T m hm t h1 _:=by
  have:=p.stillT (m:=0) (t:=t) m (by omega) (fun j _ hj=>fun hw=>h1 j (by omega) hw);simp_all
 H m hm id h1 _:=by
  have:=p.stillH (m:=0) (id:=id) m (by omega) (fun j _ hj=>fun hw=>h1 j (by omega) hw);simp_all
 L m hm h1 _:=by
  have:=p.stillL (m:=0) m (by omega) (fun j _ hj=>fun hw=>h1 j (by omega) hw);simp_all
def Œ (ops:List Oper)(X:Nat->Prop):Prop:=∀(j:Nat) o,ops[j]?=some o->X j->∀d∈nP o,X d
def sx.anc_in (p:sx call base ops xs an σ F){X:Nat->Prop}(hd:Œ ops X):∀(j:Nat),(∀o,ops[j]?=some o->∀d∈nP o,X d)->j<ops.length->∀x∈an.getD j [],X x:=by
 intro j;induction j using Nat.strongRecOn with
 |_ j ih=>
  intro hj hlt x hx;have ho:ops[j]?=some ops[j]:=lθ hlt;rcases p.anc j _ ho x hx with h|⟨d,hd1,hd2,hx⟩
  ·simp_all
  ·exact ih d hd2 (fun o' ho'=>hd d o' ho' (hj _ ho d hd1)) (by omega) x hx
def sx.more (p:sx call base ops xs an σ F){X:Nat->Prop}{st:St}(hd:Œ ops X)(inv:Inv xs σ F X st){i:Nat}{x:eP}(hx:xs[i]?=some x)(hni:¬X i)(hr:∀o,ops[i]?=some o->∀d∈nP o,X d):
  ∃st' f',Vs call base x st=some (st',f')/\Inv xs σ F (fun j=>X j\/j=i) st':=by
 have hlt:i<xs.length:=by
  rcases lυ i xs.length with h|h
  ·exact h
  ·simp[lξ h]at hx
 have hanc:∀k∈an.getD i [],X k:=p.anc_in hd i hr (by rw[p.len];exact hlt)
 -- what was run and is not mH from i comes ahead of it
 have before:∀j y,j<i->xs[j]?=some y->X j\/W3 y x (F j) (F i):=fun j y hj hy=>(p.pair j i y x hj hy hx).imp_left (hanc j)
 have behind:∀j y,i<j->xs[j]?=some y->X j->W3 x y (F i) (F j):=fun j y hj hy hX=>(p.pair i j x y hj hx hy).resolve_left fun h=>
  hni (p.anc_in hd j (fun o ho=>hd j o ho hX) (by
   rw[p.len];rcases lυ j xs.length with h|h
   ·exact h
   ·simp[lξ h]at hy) i h)
 have getx:∀j,j<xs.length->xs[j]?=some (xs.getD j x):=fun j hj=>by rw[lω,lθ hj];rfl
 obtain⟨st',f',h1,h2⟩:=ra (p.step i x hx) (st2:=st)
  (fun t ht=>inv.T i (by omega) t
   (fun j hj ⟨y,hy,hdt⟩=>(before j y hj hy).resolve_right fun ap=>ap.t1 t hdt ht)
   (fun j hj ⟨y,hy,hdt⟩ hX=>by
    rcases Nat.eq_or_lt_of_le hj with rfl|hj
    ·exact hni hX
    ·exact(behind j y hj hy hX).t3 t hdt ht))
  (fun id hid=>inv.H i (by omega) id
   (fun j hj ⟨hl,hw⟩=>(before j _ hj (getx j hl)).resolve_right fun ap=>by have:=ap.r1 id hid;rw[hw]at this;simp at this)
   (fun j hj ⟨hl,hw⟩ hX=>by
    rcases Nat.eq_or_lt_of_le hj with rfl|hj
    ·exact hni hX
    ·have:=(behind j _ hj (getx j hl) hX).r2 id hid;rw[hw]at this;simp at this))
  (fun hg=>inv.L i (by omega)
   (fun j hj ⟨hl,hw⟩=>(before j _ hj (getx j hl)).resolve_right fun ap=>ap.gg ⟨hw,hg⟩)
   (fun j hj ⟨hl,hw⟩ hX=>by
    rcases Nat.eq_or_lt_of_le hj with rfl|hj
    ·exact hni hX
    ·exact(behind j _ hj (getx j hl) hX).gg ⟨hg,hw⟩))
 refine⟨st',f',h1,⟨fun m hm t k1 k2=>?_,fun m hm id k1 k2=>?_,fun m hm k1 k2=>?_⟩⟩
 ·by_cases hdt:x.dst=some t
  ·have him:i<m:=by
    rcases lυ i m with h|h
    ·exact h
    ·exact absurd (.inr rfl) (k2 i h ⟨x,hx,hdt⟩)
   rw[h2.tm1 t hdt];have:=p.stillT (t:=t) (m:=i+1) (m - (i+1)) (by omega) (fun j hj1 hj2=>fun⟨y,hy,hyt⟩=>by
    have hX:=(k1 j (by omega) ⟨y,hy,hyt⟩).resolve_right (by omega);exact(behind j y (by omega) hy hX).t2 t hdt hyt)
   rw[show i+1+(m - (i+1))=m by omega]at this;exact this.symm
  ·rw[h2.tm0 t hdt];have hne:∀j,wrT xs j t->j≠i:=by
    rintro j ⟨y,hy,hyt⟩ rfl
    rw[hx]at hy;simp at hy;subst hy;exact hdt hyt
   exact inv.T m hm t (fun j hj hw=>(k1 j hj hw).resolve_right (hne j hw)) (fun j hj hw hX=>k2 j hj hw (.inl hX))
 ·cases hwi:wr (F i) id with
  |true=>
   have him:i<m:=by
    rcases lυ i m with h|h
    ·exact h
    ·exact absurd (.inr rfl) (k2 i h ⟨hlt,hwi⟩)
   rw[h2.hp1 id hwi];have:=p.stillH (id:=id) (m:=i+1) (m - (i+1)) (by omega) (fun j hj1 hj2=>fun⟨hl,hw⟩=>by
    have hX:=(k1 j (by omega) ⟨hl,hw⟩).resolve_right (by omega);have ap:=behind j _ (by omega) (getx j hl) hX;rw[wr_iff]at hwi hw;rcases hwi with h|⟨hg,hlim⟩
    ·have:=ap.r2 id (.inr h);rw[wr_iff.2 hw]at this;simp at this
    ·rcases hw with h|⟨hg',_⟩
     ·have:=ap.r1 id (.inr h);have hh:wr (F i) id=true:=wr_iff.2 (.inr ⟨hg,hlim⟩);rw[hh]at this;simp at this
     ·exact ap.gg ⟨hg,hg'⟩)
   rw[show i+1+(m - (i+1))=m by omega]at this;exact this.symm
  |false=>
   rw[h2.hp0 id hwi];have hne:∀j,wrH xs F j id->j≠i:=by
    rintro j ⟨hl,hw⟩ rfl
    rw[hwi]at hw;simp at hw
   exact inv.H m hm id (fun j hj hw=>(k1 j hj hw).resolve_right (hne j hw)) (fun j hj hw hX=>k2 j hj hw (.inl hX))
 ·cases hwi:(F i).grow with
  |true=>
   have him:i<m:=by
    rcases lυ i m with h|h
    ·exact h
    ·exact absurd (.inr rfl) (k2 i h ⟨hlt,hwi⟩)
   rw[h2.len1 hwi];have:=p.stillL (m:=i+1) (m - (i+1)) (by omega) (fun j hj1 hj2=>fun⟨hl,hw⟩=>by
    have hX:=(k1 j (by omega) ⟨hl,hw⟩).resolve_right (by omega);exact(behind j _ (by omega) (getx j hl) hX).gg ⟨hwi,hw⟩)
   rw[show i+1+(m - (i+1))=m by omega]at this;exact this.symm
  |false=>
   rw[h2.len0 hwi];have hne:∀j,wrL xs F j->j≠i:=by
    rintro j ⟨hl,hw⟩ rfl
    rw[hwi]at hw;simp at hw
   exact inv.L m hm (fun j hj hw=>(k1 j hj hw).resolve_right (hne j hw)) (fun j hj hw hX=>k2 j hj hw (.inl hX))
def Inv.all {X:Nat->Prop}{st:St}(inv:Inv xs σ F X st)(h:∀j,j<xs.length->X j):(∀t,get st.tm t=get (σ xs.length).tm t)/\st.hp=(σ xs.length).hp:=by
 refine⟨fun t=>inv.T _ (Nat.le_refl _) t (fun j hj _=>h j hj) (fun j hj ⟨y,hy,_⟩=>by rw[lξ hj]at hy;simp at hy),?_⟩
 apply List.ext_getElem?;intro id;exact inv.H _ (Nat.le_refl _) id (fun j hj _=>h j hj) (fun j hj ⟨hl,_⟩=>absurd hj (by omega))
end
end
section
variable [Letters] [Mv]
def cU (listed:Array Bool)(j:Nat):Prop:=listed[j]?=some true
section
variable {P:Program} {G:bV} {N:Nat} {call:aw} {base:Nat} {ops:Array Oper} {xs:List eP} {an:List LN} {σ:Nat->St} {F:Nat->eC}
variable {listed:Array Bool}
def Cj (hs:listed.size=ops.size){i:Nat}:i∈Region.ready .any ops listed↔i<ops.size/\listed[i]?=some false/\∀o,ops[i]?=some o->∀d∈nP o,cU listed d:=by
 unfold Region.ready;rw[List.mem_filter];have hget:∀{j:Nat},listed.getD j false=true↔cU listed j:=by
  intro j;unfold cU;rw[Array.getD_eq_getD_getElem?];grind
 constructor
 ·rintro⟨h1,h2⟩
  have hi:i<ops.size:=by simp_all
  rw[lγ]at h2;obtain⟨h3,h4⟩:=h2;refine⟨hi,?_,?_⟩
  ·simp_all
  ·intro o ho d hd;rw[ho]at h4;simp only[nP,List.mem_map,List.mem_filter]at hd;obtain⟨e,⟨he,hb⟩,rfl⟩:=hd;have h5:=Array.all_eq_true'.1 h4 e (by simp_all);have:oI e=Region.binds .any e:=rfl;simp_all
 ·rintro⟨hi,hl,h⟩
  refine⟨by simp_all,?_⟩
  rw[lγ];refine⟨by simp_all,?_⟩
  have ho:ops[i]?=some ops[i]:=Array.getElem?_eq_getElem hi;rw[ho];simp only[Option.map_some,Option.getD_some];rw[Array.all_eq_true'];intro e he;cases hb:oI e with
  |false=>
   have:Region.binds .any e=false:=hb;grind
  |true=>
   have:=h _ ho e.on (by
    simp only[nP,List.mem_filter];grind)
   simp_all
def Fd (p:sx call base ops.toList xs an σ F)(hs:listed.size=ops.size)(h:Region.ready .any ops listed=[]):∀j,j<xs.length->cU listed j:=by
 intro j;induction j using Nat.strongRecOn with
 |_ j ih=>
  intro hj;have hjo:j<ops.size:=by have:=p.len;simp_all
  cases hc:listed[j]with
  |true=>unfold cU;grind
  |false=>
   have:j∈Region.ready .any ops listed:=(Cj hs).2 ⟨hjo,by grind,fun o ho d hd=>by
    have:=p.back j o (by simp_all) d hd;grind⟩
   simp_all
def U8 {l:List Bool}:∀{i:Nat},l[i]?=some false->(l.set i true).count false+1=l.count false:=by
 grind
variable {raw:Nat->Bool}
def abI (hcall:gA P G call)(p:sx call base ops.toList xs an σ F)(hx:Pw (ť P G raw N ops.toList) ops.toList xs){Q:Exit->Act->World->Prop}:∀(aH:Nat) (listed:Array Bool) (st:St) (a:Act) (φ:List cK) (w:World) (S:Nat->Prop),listed.size=ops.size->listed.toList.count false<=aH->
  Œ ops.toList (cU listed)->Inv xs σ F (cU listed) st->rB G N a φ w S st->base<=st.hp.length->
  (∀a' w' φ' S',rB G N a' φ' w' S' (σ xs.length)->Fr (bs φ st.hp) S w (bs φ' (σ xs.length).hp) S' w'->(∀id,id<base->φ'[id]?=φ[id]?)->base<=(σ xs.length).hp.length->Q .normal a' w')->
  wpAny P .any ops Q aH listed a w:=by
 have kX:∀(listed:Array Bool) (st:St) (a:Act) (φ:List cK) (w:World) (S:Nat->Prop),Inv xs σ F (cU listed) st->rB G N a φ w S st->base<=st.hp.length->
   (∀a' w' φ' S',rB G N a' φ' w' S' (σ xs.length)->Fr (bs φ st.hp) S w (bs φ' (σ xs.length).hp) S' w'->(∀id,id<base->φ'[id]?=φ[id]?)->base<=(σ xs.length).hp.length->Q .normal a' w')->
   (∀j,j<xs.length->cU listed j)->Q .normal a w:=by
  intro listed st a φ w S inv rel hb hQ hall;obtain⟨h1,h2⟩:=inv.all hall;refine hQ a w φ S ⟨fun t=>by rw[<-h1 t];exact rel.tmr t,rel.gr,by rw[<-h2];exact rel.hr,rel.size,rel.defers⟩ ?_ (fun _ _=>rfl) (by rw[<-h2];exact hb)
  rw[<-h2];exact Fr.refl _ _ _
 intro aH;induction aH with
 |zero=>
  intro listed st a φ w S hs hc hd inv rel hb hQ;simp only[wpAny];have hno:∀j:Nat,listed[j]?≠some false:=by
   intro j hj;have hm:false∈listed.toList:=mθ (by simpa using hj);have:=List.count_pos_iff.2 hm;omega
  have hnil:Region.ready .any ops listed=[]:=by
   cases hr:Region.ready .any ops listed with
   |nil=>rfl
   |cons i r=>
    have:i∈Region.ready .any ops listed:=by rw[hr];simp
    exact absurd ((Cj hs).1 this).2.1 (hno i)
  exact⟨hnil,kX listed st a φ w S inv rel hb hQ (Fd p hs hnil)⟩
 |succ aH ih=>
  intro listed st a φ w S hs hc hd inv rel hb hQ;simp only[wpAny];refine⟨fun hnil=>kX listed st a φ w S inv rel hb hQ (Fd p hs hnil),fun i hi=>?_⟩
  obtain⟨hio,hlf,hpr⟩:=(Cj hs).1 hi;have ho:ops.toList[i]?=some ops[i]:=by simp[hio]
  obtain⟨x,hxi,hox⟩:=hx.get ho;have hni:¬cU listed i:=by unfold cU;rw[hlf];simp
  obtain⟨st',f',hev,inv'⟩:=p.more hd inv hxi hni (fun o ho' d hd'=>hpr o (by simpa using ho') d hd');have hli:i<listed.size:=by omega
  have hX:∀j,cU (listed.setIfInBounds i true) j↔(cU listed j\/j=i):=by
   intro j;unfold cU;rw[Array.getElem?_setIfInBounds];by_cases hij:i=j
   ·subst hij;simp[hli]
   ·simp[hij];intro e;exact absurd e.symm hij
  have hs':(listed.setIfInBounds i true).size=ops.size:=by simpa using hs
  have hc':(listed.setIfInBounds i true).toList.count false<=aH:=by
   have:=U8 (l:=listed.toList) (i:=i) (by simpa using hlf);simp only[Array.toList_setIfInBounds];omega
  have hd':Œ ops.toList (cU (listed.setIfInBounds i true)):=by
   intro j o hj hXj d hdp;rw[hX]at hXj ⊢
   rcases hXj with h|rfl
   ·exact .inl (hd j o hj h d hdp)
   ·exact .inl (hpr o (by simpa using hj) d hdp)
  have hinv':Inv xs σ F (cU (listed.setIfInBounds i true)) st':=by
   have:cU (listed.setIfInBounds i true)=fun j=>cU listed j\/j=i:=by funext j;exact propext (hX j)
   rw[this];exact inv'
  have hop:ops[i]?=some ops[i]:=Array.getElem?_eq_getElem hio;simp only[wpOp,hop];unfold Vs at hev;split at hev
  ·simp at hev
  ·rename_i hgd;rw[if_pos (by rw[uI rel.tmr hox hgd])];refine .inl (aaX hcall rel hox.op hox.dst hox.lt hb hev fun a' w' φ' S' rel' hf hφ=>?_);refine ih _ st' a' φ' w' S' hs' hc' hd' hinv' rel' (mσ hb (Lb hev)) fun a2 w2 φ2 S2 r1 r2 r3 r4=>hQ a2 w2 φ2 S2 r1 (hf.trans r2) (fun id hid=>(r3 id hid).trans (hφ id hid)) r4
  ·rename_i hgd;rw[if_neg (by rw[uI rel.tmr hox hgd];simp)];have hdo:EB (ops[i]).dst a:=fun t ht=>mχ (hox.lt t ht) rel.size
   simp only[lβ,lψ]at hev;obtain⟨rfl,rfl⟩:=hev;rw[hox.dst]at hinv';exact ih _ _ _ φ w S hs' hc' hd' hinv' (rel.skip hdo) hb hQ
variable {a:Act} {φ:List cK} {w:World} {S:Nat->Prop} {st:St}
def rB.drawn (h:rB G N a φ w S st)(n:Nat):rB G N a φ {w with drawn:=n} S st:=by
 have hst:gV S w {w with drawn:=n}:=fun _ _=>rfl
 exact⟨lI (Ext.refl φ) hst (fun _ h=>h) h.tmr,zf hst (fun _ h=>h) h.gr,⟨h.hr.len,fun id l o h1 h2=>t8 (Ext.refl φ) hst (fun _ h=>h) (fun _ _=>rfl) (h.hr.obj id l o h1 h2),h.hr.own,h.hr.one,h.hr.low⟩,h.size,h.defers⟩
def QD (hcall:gA P G call)(hm:P.follows .mixedOrders=true){id:Nat}{nal k:Nat}{ps:List (Nat×Nat)}{Q:Exit->Act->World->Prop}{stn:St}{m:Nat}(hx:Pd P G raw N ops.toList ops.toList 0=some (xs,k))(hed:jD ops.toList 0=true)(hps:nM xs (Do ops.toList []) (List.range xs.length)=some ps)(hev:uy call nal xs (some ps) st=some stn)(rel:rB G N a φ w S st)(hmm:m<=st.hp.length)(hQ:∀a' w',Later G N m φ w S st stn a' w'->Q .normal a' w'):(Code.region id ops true).wp P Q a w:=by
 have hpw:=Gn hx;simp only[uy]at hev;split at hev
 ·rename_i st2 fs hseq;obtain⟨hap,hev⟩:=kq hev;simp only[lβ]at hev;subst hev;obtain⟨σ,F,hσ0,hσn,plan⟩:=J_ hpw.1 hed hps hseq hap;have hlen:=rel.hr.len;have hres:=rel.hr.reserve nal;refine wp_region_any hm (abI hcall plan hpw ops.size _ (σ 0) a (φ++List.replicate nal .none) _ S (by simp) (by simp) (fun j o hj hX=>?_) ?_ (by rw[hσ0];exact(rel.reserve nal).drawn _) (by rw[hσ0];simp[jP]) fun a' w' φ' S' r1 r2 r3 r4=>hQ a' w' ?_)
  ·simp[cU]at hX;rw[Array.getElem?_replicate]at hX;split at hX<;>simp at hX
  ·have:cU (Array.replicate ops.size false)=fun _=>False:=by
    funext j
    unfold cU;rw[Array.getElem?_replicate];split<;>simp
   rw[this];exact plan.start
  ·rw[hσn]at r1 r2 r4;rw[hσ0]at r2;refine⟨φ',S',r1,?_,fun id hid=>by rw[r3 id (by omega),lκ (by omega)],mσ hmm r4⟩
   refine Fr.trans (O1:=bs (φ++List.replicate nal .none) (grow st.hp (List.replicate nal .unborn))) (S1:=S) (w1:={w with drawn:=w.drawn+1}) ?_ r2;rw[jP];exact⟨fun _ _ _=>rfl,Nat.le_refl _,rfl,rfl,rfl,fun _ h=>h,fun _ h=> .inl h,fun b hb=> .inl (hres.2.1 b hb)⟩
 ·simp at hev
end
end
section
variable [Letters] [Mv]
section
variable {P:Program} {G:bV} {N m:Nat} {call:aw} {a:Act} {φ:List cK} {w:World} {S:Nat->Prop} {st st':St} {hp:List Ob}
def Later.refl (rel:rB G N a φ w S st)(hm:m<=st.hp.length):Later G N m φ w S st st a w:=⟨φ,S,rel,Fr.refl _ _ _,fun _ _=>rfl,hm⟩
def O7 {cs:List D}{k i lo len z:Nat}(h:b3 (cs.set k (.arr i lo len z))=true):b3 cs=true:=by
 unfold b3 at h ⊢
 rw[List.length_set]at h;rw[lγ]at h ⊢
 refine⟨h.1,?_⟩;have h2:=h.2;cases cs with
 |nil=>exact h2
 |cons d r=>
  cases k with
  |zero=>exact absurd h2 (by simp[pH])
  |succ k=>cases d<;>first|rfl|(rename_i x;cases x<;>exact h2)
def HR.push (hr:HR φ w S hp){l:cK}{o:Ob}(hob:OR (φ++[l]) w S l o)(hown:∀b,cj l o≠some b):HR (φ++[l]) w S (hp++[o])/\(∀b,bs (φ++[l]) (hp++[o]) b->bs φ hp b)/\Ext φ (φ++[l]):=by
 have hext:Ext φ (φ++[l]):=by
  intro id x hl _;have:id<φ.length:=by
   rcases lυ id φ.length with h|h
   ·exact h
   ·simp[lξ h]at hl
  rw[lκ this];exact hl
 have hat:∀{id:Nat} {x:cK} {y:Ob},(φ++[l])[id]?=some x->(hp++[o])[id]?=some y->(φ[id]?=some x/\hp[id]?=some y)\/(x=l/\y=o):=by
  intro id x y h1 h2;rcases lυ id hp.length with h|h
  ·rw[lκ h]at h2;rw[lκ (by rw[hr.len];exact h)]at h1;exact .inl ⟨h1,h2⟩
  ·rw[lτ h]at h2;rw[lτ (by rw[hr.len];exact h),hr.len]at h1;cases hk:id - hp.length with
   |zero=>rw[hk]at h1 h2;simp at h1 h2;exact .inr ⟨h1.symm,h2.symm⟩
   |succ n=>rw[hk]at h1;simp at h1
 have hown':∀b,bs (φ++[l]) (hp++[o]) b->bs φ hp b:=by
  rintro b ⟨id,x,y,h1,h2,h3⟩
  rcases hat h1 h2 with⟨g1,g2⟩|⟨rfl,rfl⟩
  ·exact⟨id,x,y,g1,g2,h3⟩
  ·exact absurd h3 (hown b)
 refine⟨⟨by simp[hr.len],?_,fun b hb=>hr.own b (hown' b hb),?_,hr.low⟩,hown',hext⟩
 ·intro id x y h1 h2;rcases hat h1 h2 with⟨g1,g2⟩|⟨rfl,rfl⟩
  ·exact t8 hext (fun _ _=>rfl) (fun _ h=>h) (fun _ _=>rfl) (hr.obj id x y g1 g2)
  ·exact hob
 ·intro id id' x x' y y' b h1 h2 h1' h2' h3 h3';rcases hat h1 h2 with⟨g1,g2⟩|⟨rfl,rfl⟩
  ·rcases hat h1' h2' with⟨g1',g2'⟩|⟨rfl,rfl⟩
   ·exact hr.one id id' x x' y y' b g1 g2 g1' g2' h3 h3'
   ·exact absurd h3' (hown b)
  ·exact absurd h3 (hown b)
def S6 {d:D}{v:Value}(h:VR φ w S d v)(ho:We d=true):∃ad,v= .slice ad 0 0:=by
 unfold We at ho;split at ho
 ·obtain⟨ad,cap,us,rfl,h1,h2,_⟩:=h;simp only[mS]at h2;simp_all
 ·obtain⟨ad,cap,us,rfl,h1,h2,h3,_⟩:=h;subst h3;simp only[mS]at h2;simp_all
 ·grind
def J6 {ad:Option Addr}{z:Nat}{id:Nat}(h:φ[id]?=some (.arr 0 0 0 z 0)):VR φ w S (.arr id 0 0 z) (.slice ad 0 0):=by
 simp only[VR];grind
def Cc (hr:HR φ w S hp)(z:Nat):HR (φ++[.arr 0 0 0 z 0]) w S (hp++[.arr []])/\(∀b,bs (φ++[.arr 0 0 0 z 0]) (hp++[.arr []]) b->bs φ hp b)/\Ext φ (φ++[.arr 0 0 0 z 0]):=
 hr.push (by
  exact⟨rfl,Nat.le_refl _,fun h=>absurd h (Nat.lt_irrefl 0),[],Pw.nil,by intro i u hu;grind⟩) (by simp[cj])
def J5 {tm:Tm}{s:Nat}{d:D}(h:WY φ w S tm a)(hd:VR φ w S d (a.tmps.getD s undef)):WY φ w S (.cons s d tm) a:=by
 intro t;simp only[get];rw[beq_eq];by_cases hs:s=t
 ·simp_all
 ·simp only[hs,cond_false];exact h t
def VK (rel:rB G N a φ w S st)(hm:m<=st.hp.length){n:Nat}{ws:LN}(live:LN):Later G N m φ w S st ⟨fw live (mapD (idx (close st.hp n ws (List.range m)))) st.tm,bZ (close st.hp n ws (List.range m)) st.hp⟩ a w:=by
 have hnd:=(fh (hp:=st.hp) n ws (List.range m) List.nodup_range).1;have hlen:=rel.hr.len;refine⟨kY (close st.hp n ws (List.range m)) φ,S,⟨fun t=>?_,rel.gr,rel.hr.shrink hnd,rel.size,rel.defers⟩,(Fr.refl _ _ _).less fun b hb=>SG rel.hr _ hb,fun id hid=>EL (by omega) hid,?_⟩
 ·rw[Bk];split
  ·exact AK (rd _ φ) _ (rel.tmr t)
  ·simp only[VR]
 ·obtain⟨r,hr⟩:=(fh (hp:=st.hp) n ws (List.range m) List.nodup_range).2;simp only[bZ,lζ];grind
def Ï (rel:rB G N a φ w S st)(s off:Nat):∃v,VR φ w S (ghP st s off) v:=by
 unfold ghP;cases Nat.ble 1000 off
 ·exact⟨_,rel.tmr s⟩
 ·simp only[cond_true];split
  ·rename_i id o hs;have hvs:=rel.tmr s;rw[hs]at hvs;obtain⟨b,hb,_⟩:=hvs;split
   ·rename_i cs hcs;have hob:=fk hcs (by simp);obtain⟨vs0,t0,fz0,e1,e2,e3,e4,_⟩:=rel.hr.obj id _ _ hb hob;cases hd:cs[o]? with
    |none=>
     refine⟨undef,?_⟩;rw[lω,hd];simp only[Option.getD_none,VR]
    |some d=>
     obtain⟨v,hv1,hv2⟩:=e3.get hd;grind
   ·exact⟨undef,by simp only[VR]⟩
  ·exact⟨undef,by simp only[VR]⟩
def Sr {g:Gh}(h:pO m g st=some st')(rel:rB G N a φ w S st)(hm:m<=st.hp.length):Later G N m φ w S st st' a w:=by
 have hlen:=rel.hr.len;cases g with
 |own s z=>
  simp only[pO]at h;cases hc:We (get st.tm s)with
  |false=>rw[hc]at h;simp at h;subst h;exact Later.refl rel hm
  |true=>
   rw[hc]at h;simp at h;subst h;obtain⟨h1,h2,h3⟩:=Cc rel.hr z;obtain⟨ad,hv⟩:=S6 (rel.tmr s) hc;refine⟨φ++[.arr 0 0 0 z 0],S,⟨J5 (lI h3 (fun _ _=>rfl) (fun _ h=>h) rel.tmr) ?_,rel.gr,h1,rel.size,rel.defers⟩,(Fr.refl _ _ _).less h2,fun id hid=>lκ (by omega),by grind⟩
   rw[hv];exact J6 (by simp_all)
 |ownc s off z=>
  simp only[pO]at h;split at h
  ·rename_i id o hs;split at h
   ·rename_i cs hcs;split at h
    ·rename_i d hd;cases hc:We d with
     |false=>rw[hc]at h;simp at h;subst h;exact Later.refl rel hm
     |true=>
      rw[hc]at h;simp at h;subst h;obtain⟨h1,h2,h3⟩:=Cc rel.hr z;have hob:=fk hcs (by simp);obtain⟨v0,hvs⟩:=Ï rel s off;rw[hs]at hvs;obtain⟨b,hb,_⟩:=hvs;have hidl:id<st.hp.length:=by
       grind
      have hob1:(st.hp++[Ob.arr []])[id]?=some (.box cs):=by grind
      have hb1:(φ++[cK.arr 0 0 0 z 0])[id]?=some (.box b):=by grind
      obtain⟨vs,t,fz,g1,g2,g3,g4,g5⟩:=h1.obj id _ _ hb1 hob1;obtain⟨v,hv1,hv2⟩:=g3.get hd;obtain⟨ad,hv⟩:=S6 hv2 hc;have hphi:(φ++[cK.arr 0 0 0 z 0]).set id (.box b)=φ++[cK.arr 0 0 0 z 0]:=md hb1;have hnew:(φ++[cK.arr 0 0 0 z 0])[st.hp.length]?=some (.arr 0 0 0 z 0):=by simp_all
      have hown:=h1.own b ⟨id,_,_,hb1,hob1,rfl⟩;obtain⟨k1,k2,k3⟩:=h1.one_step (S':=S) (w':=w) (l':= .box b) (o':= .box (cs.set (o+VD off) (.arr st.hp.length 0 0 z))) hb1 hob1 (fun _=>rfl) (fun _ _ _=>rfl) (Nat.le_refl _) rfl rfl rfl (fun _ h=>h) (fun _ h=> .inl h) h1.low (by
       rw[hphi];refine⟨vs,t,fz,g1,g2,?_,g4,fun hh=>g5 (O7 hh)⟩
       have:=g3.set (o+VD off) (x:= .arr st.hp.length 0 0 z) (v:=v) (by rw[hv];exact J6 hnew);rwa [md hv1]at this) (by
       intro b' hb';simp only[cj,lβ]at hb';subst hb';exact⟨.inl rfl,hown.2,hown.1⟩)
      rw[hphi]at k1 k2;have he:xZ st.hp id (.box (cs.set (o+VD off) (.arr st.hp.length 0 0 z)))++[Ob.arr []]=(st.hp++[Ob.arr []]).set id (.box (cs.set (o+VD off) (.arr st.hp.length 0 0 z))):=by
       rw[bY,List.set_append_left _ _ hidl]
      refine⟨φ++[.arr 0 0 0 z 0],S,⟨lI h3 (fun _ _=>rfl) (fun _ h=>h) rel.tmr,rel.gr,by simp_all,rel.size,rel.defers⟩,?_,fun id hid=>lκ (by omega),by grind⟩
      rw[he];exact Fr.trans ((Fr.refl _ _ _).less h2) k2
    ·simp at h
   ·simp at h
  ·simp at h
 |frz s=>
  simp only[pO]at h;split at h
  ·rename_i x hx;simp at h;subst h;have hz:((dids (get st.tm s)).map fun i=>(i,aX st.hp i))=(dids (get st.tm s)).zip ((dids (get st.tm s)).map (aX st.hp)):=(vW (aX st.hp) _).symm;rw[hz]at hx ⊢
   obtain⟨h1,h2⟩:=rel.hr.freeze (dids (get st.tm s));have hv:=qL rel.hr (S':=Uf φ S st.hp (dids (get st.tm s))) (fun _ h=> .inl h) wb _ hx (rel.tmr s);refine⟨φ,_,⟨J5 (lI (Ext.refl φ) (fun _ _=>rfl) (fun _ h=> .inl h) rel.tmr) (by exact hv),zf (fun _ _=>rfl) (fun _ h=> .inl h) rel.gr,h1,rel.size,rel.defers⟩,h2,fun _ _=>rfl,by rw[bJ];exact hm⟩
  ·simp at h
 |frzc s off=>
  simp only[pO]at h;split at h
  ·rename_i id o hs;split at h
   ·rename_i cs hcs;split at h
    ·rename_i d hd;cases hc:(dids d).contains id with
     |true=>simp_all
     |false=>
      rw[hc]at h;split at h
      ·rename_i x hx;cases hbt:(b3 (cs.set (o+VD off) (.p x))&&!b3 cs)with
       |true=>simp_all
       |false=>
       simp only[hbt,cond_false,lβ]at h;subst h;have hb3:b3 (cs.set (o+VD off) (.p x))=true->b3 cs=true:=fun hh=>by simp_all
       have hni:id∉dids d:=by simp_all
       have hz:((dids d).map fun i=>(i,aX st.hp i))=(dids d).zip ((dids d).map (aX st.hp)):=(vW (aX st.hp) _).symm;rw[hz]at hx ⊢
       obtain⟨h1,h2⟩:=rel.hr.freeze (dids d);have hob:=fk hcs (by simp);obtain⟨v0,hvs⟩:=Ï rel s off;rw[hs]at hvs;obtain⟨b,hb,_⟩:=hvs;obtain⟨vs0,t0,fz0,e1,e2,e3,e4,_⟩:=rel.hr.obj id _ _ hb hob;obtain⟨v,hv1,hv2⟩:=e3.get hd;have hv:=qL rel.hr (S':=Uf φ S st.hp (dids d)) (fun _ h=> .inl h) wb _ hx hv2;have hob1:(ar st.hp (ir ((dids d).zip ((dids d).map (aX st.hp)))))[id]?=some (.box cs):=by
        rw[Bi,f9,if_neg (fun h=>hni h.1)];exact hob
       obtain⟨vs,t,fz,g1,g2,g3,g4,g5⟩:=h1.obj id _ _ hb hob1;have hvv:vs=vs0:=by
        simp_all
       subst hvv;have hphi:φ.set id (.box b)=φ:=md hb;have hown:=h1.own b ⟨id,_,_,hb,hob1,rfl⟩;obtain⟨k1,k2,k3⟩:=h1.one_step (S':=Uf φ S st.hp (dids d)) (w':=w) (l':= .box b) (o':= .box (cs.set (o+VD off) (.p x))) hb hob1 (fun _=>rfl) (fun _ _ _=>rfl) (Nat.le_refl _) rfl rfl rfl (fun _ h=>h) (fun _ h=> .inl h) h1.low (by
        rw[hphi];refine⟨vs,t,fz,g1,g2,?_,g4,fun hh=>g5 (hb3 hh)⟩
        have:=g3.set (o+VD off) (x:= .p x) (v:=v) (by exact hv);rwa [md hv1]at this) (by
        intro b' hb';simp only[cj,lβ]at hb';subst hb';exact⟨.inl rfl,hown.2,hown.1⟩)
       rw[hphi]at k1 k2;refine⟨φ,Uf φ S st.hp (dids d),⟨lI (Ext.refl φ) (fun _ _=>rfl) (fun _ h=> .inl h) rel.tmr,zf (fun _ _=>rfl) (fun _ h=> .inl h) rel.gr,by rw[bY];exact k1,rel.size,rel.defers⟩,?_,fun _ _=>rfl,by rw[bY,List.length_set,bJ];exact hm⟩
       rw[bY];exact Fr.trans h2 k2
      ·simp at h
    ·simp at h
   ·simp at h
  ·simp at h
 |keep live=>
  simp only[pO,lβ]at h;subst h;exact VK rel hm live
def Later.bind {φ1:List cK}{S1:Nat->Prop}{w1:World}{st1 st2:St}{a2:Act}{w2:World}(hf:Fr (bs φ st.hp) S w (bs φ1 st1.hp) S1 w1)(hφ:∀id,id<m->φ1[id]?=φ[id]?)(h:Later G N m φ1 w1 S1 st1 st2 a2 w2):Later G N m φ w S st st2 a2 w2:=by
 obtain⟨φ2,S2,r1,r2,r3,r4⟩:=h;exact⟨φ2,S2,r1,hf.trans r2,fun id hid=>(r3 id hid).trans (hφ id hid),r4⟩
def C7 (ex:Ex):Exit->Prop
 | .normal=>ex= .norm
 | .exit i=>ex= .exit i
 | .ret=>ex= .ret
 |_=>False
def Post (G:bV)(N m:Nat)(φ:List cK)(w:World)(S:Nat->Prop)(st:St)(r:Ex×St)(e:Exit)(a':Act)(w':World):Prop:=C7 r.1 e/\Later G N m φ w S st r.2 a' w'
def Post.bind {φ1:List cK}{S1:Nat->Prop}{w1:World}{st1:St}{r:Ex×St}{e:Exit}{a2:Act}{w2:World}(hf:Fr (bs φ st.hp) S w (bs φ1 st1.hp) S1 w1)(hφ:∀id,id<m->φ1[id]?=φ[id]?)(h:Post G N m φ1 w1 S1 st1 r e a2 w2):Post G N m φ w S st r e a2 w2:=
 ⟨h.1,h.2.bind hf hφ⟩
def ID {c:Code}{Q:Exit->Act->World->Prop}(I:Nat->Act->World->Prop)(zero:∀a w,¬I 0 a w)(round:∀n a w,I (n+1) a w->c.wp P (Exit.then (I n) Q) a w){n:Nat}(h₀:I n a w):(Code.loop c).wp P Q a w:=by
 intro b k cs;have key:∀n a w,I n a w->∃e a' w',Q e a' w'/\Arrives P (lone (b.at a (.code c:: .inLoop c::k)) cs w) b k cs e a' w':=by
  intro n;induction n with
  |zero=>simp_all
  |succ n ih=>
   intro a w hI;obtain⟨e,a₁,w₁,hq,harr⟩:=round n a w hI b (.inLoop c::k) cs;cases e with
   |normal=>
    obtain⟨e₂,a₂,w₂,hq₂,harr₂⟩:=ih a₁ w₁ hq;exact⟨e₂,a₂,w₂,hq₂,.of_steps (Steps.trans harr (.one step_inLoop)) harr₂⟩
   |exit id=>exact⟨_,a₁,w₁,hq,.pass (x:= .inLoop c) rfl (fun _ _=> .inl (by simp)) harr⟩
   |goto l=>exact⟨_,a₁,w₁,hq,.pass (x:= .inLoop c) rfl (fun _ _=> .inl (by simp)) harr⟩
   |ret=>exact⟨_,a₁,w₁,hq,.pass (x:= .inLoop c) rfl (fun _ _=> .inl (by simp)) harr⟩
   |panic ch=>exact⟨_,a₁,w₁,hq,.pass (x:= .inLoop c) rfl (fun _ _=> .inl (by simp)) harr⟩
   |outgrown=>exact⟨_,a₁,w₁,hq,.pass (x:= .inLoop c) rfl (fun _ _=> .inl (by simp)) harr⟩
 obtain⟨e,a',w',hq,harr⟩:=key n a w h₀;exact⟨e,a',w',hq,.of_steps (.one step_loop) harr⟩
end
end
section
variable [Letters] [Mv]
section
variable {P:Program} {G:bV} {raw:Nat->Bool} {N m:Nat} {call:aw} {a:Act} {φ:List cK} {w:World} {S:Nat->Prop} {st st':St} {hp:List Ob}
def FB (P:Program)(G:bV)(raw:Nat->Bool)(N:Nat)(c:Code):Co->Prop
 | .skip=>c= .skip
 | .reg nal xs ps _=>(∃id ops draw,c= .region id ops draw/\Pe P G raw N ops.toList draw=some (.reg nal xs ps []))\/(nal=0/\xs=[⟨none,.pan,[],0,none⟩]/\ps=none)
 | .seq x y=>∃a b,c= .seq a b/\Gl P G raw N a=some x/\Gl P G raw N b=some y
 | .cond z x y=>∃o a b,c= .cond o a b/\cA P G 0 o=some z/\Gl P G raw N a=some x/\Gl P G raw N b=some y
 | .block id x=>∃a,c= .block id a/\Gl P G raw N a=some x
 | .loop _ x=>∃a,c= .loop a/\Gl P G raw N a=some x
 | .exit id=>c= .exit id
 | .ret=>c= .ret
 | .gh _ _=>False
def qq {c:Code}{k:Co}(h:Gl P G raw N c=some k):FB P G raw N c k:=by
 cases c<;>simp only[Gl]at h;case skip=>simp only[lβ]at h;subst h;rfl
 case region id ops draw=>
  have h0:=h;unfold Pe at h;split at h
  ·simp at h
  ·rename_i xs n hx;cases draw with
   |false=>
    simp only[cond_false,lβ]at h;subst h;exact .inl ⟨id,ops,false,rfl,h0⟩
   |true=>
    simp only[cond_true]at h;obtain⟨_,h⟩:=kq h;split at h
    ·simp only[lβ]at h;subst h;exact .inl ⟨id,ops,true,rfl,h0⟩
    ·simp at h
 case seq a b=>
  split at h
  ·rename_i x y hx hy;simp only[lβ]at h;subst h;exact⟨a,b,rfl,hx,hy⟩
  ·simp at h
 case cond o a b=>
  split at h
  ·rename_i z x y hz hx hy;simp only[lβ]at h;subst h;exact⟨o,a,b,rfl,hz,hx,hy⟩
  ·simp at h
 case block id b=>
  split at h
  ·rename_i x hx;simp only[lβ]at h;subst h;exact⟨b,rfl,hx⟩
  ·simp at h
 case loop b=>
  split at h
  ·rename_i x hx;simp only[lβ]at h;subst h;exact⟨b,rfl,hx⟩
  ·simp at h
 case exit id=>simp only[lβ]at h;subst h;rfl
 case ret=>simp only[lβ]at h;subst h;rfl
 case refuse y=>simp only[lβ]at h;subst h;exact .inr ⟨rfl,rfl,rfl⟩
 all_goals simp at h
def adI (hcall:gA P G call)(hm:P.follows .mixedOrders=true){aH:Nat}:∀(k:Co) {c:Code} {st:St} {r:Ex×St} {a:Act} {φ:List cK} {w:World} {S:Nat->Prop},Gl P G raw N c=some (er k)->cr call aH m k st=some r->rB G N a φ w S st->m<=st.hp.length->c.wp P (Post G N m φ w S st r) a w:=by
 intro k;induction k with
 |skip=>
  intro c st r a φ w S hc hev rel hmm;have:=qq hc;simp only[er,FB]at this;subst this;simp only[cr,lβ]at hev;subst hev;exact wp_skip ⟨rfl,Later.refl rel hmm⟩
 |reg nal xs ps out=>
  intro c st r a φ w S hc hev rel hmm;have:=qq hc;simp only[er,FB]at this;have this:∃id ops draw,c= .region id ops draw/\Pe P G raw N ops.toList draw=some (.reg nal xs ps []):=by
   rcases this with h|⟨rfl,rfl,rfl⟩
   ·exact h
   ·simp only[cr]at hev;have:uy call 0 [⟨none,.pan,[],0,none⟩] none st=none:=rfl;rw[this]at hev;cases hev
  obtain⟨rid,ops,draw,rfl,hreg⟩:=this;simp only[cr]at hev;split at hev
  ·rename_i st1 hst1;simp only[lβ]at hev;subst hev;have kX:∀a' w',Later G N m φ w S st st1 a' w'->Post G N m φ w S st (.norm,⟨fw out id st1.tm,st1.hp⟩) .normal a' w':=by
    rintro a' w' ⟨φ',S',r1,r2,r3,r4⟩
    refine⟨rfl,φ',S',⟨fun t=>?_,r1.gr,r1.hr,r1.size,r1.defers⟩,r2,r3,r4⟩
    simp only[Bk];split
    ·exact r1.tmr t
    ·simp only[VR]
   unfold Pe at hreg;split at hreg
   ·simp at hreg
   ·rename_i ys n hx;cases draw with
    |false=>
     simp only[cond_false,lβ,Co.reg.injEq]at hreg;obtain⟨rfl,rfl,rfl,_⟩:=hreg;exact ac9 hcall hx hst1 rel hmm kX
    |true=>
     simp only[cond_true]at hreg;obtain⟨hed,hreg⟩:=kq hreg;split at hreg
     ·rename_i ps' hps;simp only[lβ,Co.reg.injEq]at hreg;obtain⟨rfl,rfl,rfl,_⟩:=hreg;exact QD hcall hm hx hed hps hst1 rel hmm kX
     ·simp at hreg
  ·simp at hev
 |seq x y ihx ihy=>
  intro c st r a φ w S hc hev rel hmm;have:=qq hc;simp only[er,FB]at this;obtain⟨cx,cy,rfl,hx,hy⟩:=this;simp only[cr]at hev;refine wp_seq ?_;split at hev
  ·rename_i st1 hst1;refine wp_mono (ihx hx hst1 rel hmm) ?_;rintro e a1 w1 ⟨h1,φ1,S1,r1,r2,r3,r4⟩;cases e<;>simp only[C7,reduceCtorEq]at h1;exact wp_mono (ihy hy hev r1 r4) fun e a2 w2 h=>h.bind r2 r3
  ·rename_i hne;refine wp_mono (ihx hx hev rel hmm) ?_;rintro e a1 w1 ⟨h1,h2⟩;cases e with
   |normal=>
    exfalso;simp only[C7]at h1;obtain⟨ex,s1⟩:=r;simp only at h1;subst h1;exact hne s1 hev
   |exit i=>exact⟨h1,h2⟩
   |ret=>exact⟨h1,h2⟩
   |goto l=>exact h1.elim
   |panic ch=>exact h1.elim
   |outgrown=>exact h1.elim
 |cond z x y ihx ihy=>
  intro c st r a φ w S hc hev rel hmm;have:=qq hc;simp only[er,FB]at this;obtain⟨o,cx,cy,rfl,hz,hx,hy⟩:=this;have hv:=bq rel.tmr rel.gr hz;simp only[cr]at hev;split at hev
  ·rename_i b hb;rw[hb]at hv;simp only[VR,PR]at hv;cases b with
   |true=>exact wp_cond_true hv (ihx hx hev rel hmm)
   |false=>exact wp_cond_false hv (ihy hy hev rel hmm)
  ·simp at hev
 |block id x ihx=>
  intro c st r a φ w S hc hev rel hmm;have:=qq hc;simp only[er,FB]at this;obtain⟨cx,rfl,hx⟩:=this;simp only[cr]at hev;refine wp_block ?_;split at hev
  ·rename_i i st1 hst1;refine wp_mono (ihx hx hst1 rel hmm) ?_;rintro e a1 w1 ⟨h1,h2⟩;rw[beq_eq]at hev;cases e with
   |exit j=>
    simp only[C7,Ex.exit.injEq]at h1;subst h1;by_cases hij:i=id
    ·simp only[hij,decide_true,cond_true,lβ]at hev;subst hev;simp only[Exit.inBlock,hij,if_true];exact⟨rfl,h2⟩
    ·simp only[hij,decide_false,cond_false,lβ]at hev;subst hev;simp only[Exit.inBlock,if_neg hij];exact⟨rfl,h2⟩
   |normal=>simp[C7]at h1
   |ret=>simp[C7]at h1
   |goto l=>exact h1.elim
   |panic ch=>exact h1.elim
   |outgrown=>exact h1.elim
  ·rename_i hne;refine wp_mono (ihx hx hev rel hmm) ?_;rintro e a1 w1 ⟨h1,h2⟩;cases e with
   |exit j=>
    exfalso;simp only[C7]at h1;obtain⟨ex,s1⟩:=r;simp only at h1;subst h1;exact hne j s1 hev
   |normal=>exact⟨h1,h2⟩
   |ret=>exact⟨h1,h2⟩
   |goto l=>exact h1.elim
   |panic ch=>exact h1.elim
   |outgrown=>exact h1.elim
 |loop live x ihx=>
  intro c st r a φ w S hc hev rel hmm;have:=qq hc;simp only[er,FB]at this;obtain⟨cx,rfl,hx⟩:=this;simp only[cr]at hev;refine ID (fun n a1 w1=>∃st1,pQ m (cr call aH m x) live n st1=some r/\∃φ1 S1,rB G N a1 φ1 w1 S1 st1/\Fr (bs φ st.hp) S w (bs φ1 st1.hp) S1 w1/\(∀id,id<m->φ1[id]?=φ[id]?)/\m<=st1.hp.length) ?_ ?_ (n:=aH) ⟨st,hev,φ,S,rel,Fr.refl _ _ _,fun _ _=>rfl,hmm⟩
  ·rintro a1 w1 ⟨st1,h,_⟩
   simp[pQ]at h
  ·rintro n a1 w1 ⟨st1,h,φ1,S1,r1,r2,r3,r4⟩
   simp only[pQ]at h;split at h
   ·simp at h
   ·rename_i st2 hst2;obtain⟨φ2,S2,q1,q2,q3,q4⟩:=Sr hst2 r1 r4;split at h
    ·rename_i st3 hst3;refine wp_mono (ihx hx hst3 q1 q4) ?_;rintro e a3 w3 ⟨h1,φ3,S3,p1,p2,p3,p4⟩;cases e<;>simp only[C7,reduceCtorEq]at h1;exact⟨st3,h,φ3,S3,p1,(r2.trans q2).trans p2,fun id hid=>((p3 id hid).trans (q3 id hid)).trans (r3 id hid),p4⟩
    ·rename_i hne;refine wp_mono (ihx hx h q1 q4) ?_;rintro e a3 w3 ⟨h1,h2⟩;have hb:=h2.bind (r2.trans q2) (fun id hid=>(q3 id hid).trans (r3 id hid));cases e with
     |normal=>
      exfalso;simp only[C7]at h1;obtain⟨ex,s1⟩:=r;simp only at h1;subst h1;exact hne s1 h
     |exit i=>exact⟨h1,hb⟩
     |ret=>exact⟨h1,hb⟩
     |goto l=>exact h1.elim
     |panic ch=>exact h1.elim
     |outgrown=>exact h1.elim
 |exit id=>
  intro c st r a φ w S hc hev rel hmm;have:=qq hc;simp only[er,FB]at this;subst this;simp only[cr,lβ]at hev;subst hev;exact wp_exit ⟨rfl,Later.refl rel hmm⟩
 |ret=>
  intro c st r a φ w S hc hev rel hmm;have:=qq hc;simp only[er,FB]at this;subst this;simp only[cr,lβ]at hev;subst hev;exact wp_ret ⟨rfl,Later.refl rel hmm⟩
 |gh g x ihx=>
  intro c st r a φ w S hc hev rel hmm;simp only[er]at hc;simp only[cr]at hev;split at hev
  ·rename_i st1 hst1;obtain⟨φ1,S1,r1,r2,r3,r4⟩:=Sr hst1 rel hmm;exact wp_mono (ihx hc hev r1 r4) fun e a2 w2 h=>h.bind r2 r3
  ·simp at hev
end
end
section
variable [Letters]
section
variable {P:Program} {G:bV} {raw:Nat->Bool} {N m:Nat} {call:aw} {a:Act} {φ:List cK} {w:World} {S:Nat->Prop} {st st':St} {hp:List Ob}
def uD:∀(ds:List D) (n t:Nat),get (fe ds n) t=if n<=t then ds.getD (t - n) .junk else .junk
 |[],n,t=>by simp[fe,get]
 |d::r,n,t=>by
  simp only[fe,get];rw[beq_eq,uD r (n+1) t];grind
variable {ds:List D} {vs:List Value}
def Vo (h:Pw (VR φ w S) ds vs)(k:Nat):WY φ w S (fe ds 0) {tmps:=vs.toArray++Array.replicate k undef,defers:=[]}:=by
 intro t;rw[uD];simp only[Nat.zero_le,if_true,Nat.sub_zero];rw[lω];cases hd:ds[t]? with
 |none=>simp only[Option.getD_none,VR]
 |some d=>
  obtain⟨v,hv,hr⟩:=h.get hd;have hlt:t<vs.length:=by
   grind
  rw[Array.getD_eq_getD_getElem?,Array.getElem?_append_left (by omega)];simp_all
def adc (rel:rB G N a φ w S st){r0:ResultVar}{r:Rv}{d:D}(hr:cRv P r0=some r)(h:Lc st r=some d):
  ∃v,(match r0 with| .tmp t=>(pure (a.tmps.getD t undef):Sem Value)| .cell x t=>do loadVar t (<-asAddr (a.tmps.getD x undef))).run P w= .ok v w/\VR φ w S d v:=by
 cases r0 with
 |tmp t=>
  simp only[cRv,lβ]at hr;subst hr;simp only[Lc,lβ]at h;subst h;exact⟨_,rfl,rel.tmr t⟩
 |cell x t=>
  simp only[cRv]at hr;split at hr
  ·rename_i y hy;simp at hr;subst hr;have ht:=gP hy;simp only[Lc]at h;split at h
   ·rename_i id off hb;split at h
    ·rename_i cs hcs;split at h
     ·rename_i ds hds;have hob:=fk hcs (by simp);have hv:=rel.tmr x;rw[hb]at hv;obtain⟨b,hbb,hv⟩:=hv;obtain⟨vs,t',fz,h1,h2,h3,h4,_⟩:=rel.hr.obj id _ _ hbb hob;obtain⟨hl,rfl⟩:=Iq hds;obtain⟨v,e1,e2⟩:=sX ht (b:=b) (o:=off) ((h3.drop off).take y.size) (zi h4) (by have:=h3.1;grind)
       (fun j c hj=>by
        have:=rj hj;simp only[World.cell?,h1];simp_all) h
      refine⟨v,?_,e2⟩;simp only[hv,asAddr,Sem.run_bind,Sem.run_pure,Result.andThen_ok,e1]
     ·simp at h
    ·simp at h
   ·simp at h
  ·grind
def Th (rel:rB G N a φ w S st):∀{l:List ResultVar} {rs:List Rv} {ds:List D},U2 P l=some rs->lR st rs=some ds->
  ∃vs:List Value,(l.mapM fun(r:ResultVar)=>(match r with| .tmp t=>(pure (a.tmps.getD t undef):Sem Value)| .cell x t=>do loadVar t (<-asAddr (a.tmps.getD x undef)))).run P w= .ok vs w/\Pw (VR φ w S) ds vs
 |[],rs,ds,hr,h=>by
  simp only[U2,lβ]at hr;subst hr;simp only[lR,lβ]at h;subst h;exact⟨[],rfl,Pw.nil⟩
 |r::l,rs,ds,hr,h=>by
  simp only[U2]at hr;split at hr
  ·rename_i x xs hx hxs;simp at hr;subst hr;simp only[lR]at h;split at h
   ·rename_i d hd;split at h
    ·rename_i es hes;simp at h;subst h;obtain⟨v,h1,h2⟩:=adc (P:=P) rel hx hd;obtain⟨vs,h3,h4⟩:=Th rel hxs hes;refine⟨v::vs,?_,Pw.cons h2 h4⟩;simp_all
    ·simp at h
   ·simp at h
  ·grind
def Nm {fn:Func}{tmps:Array Value}{us:List Value}(h:(fn.results.toList.mapM fun(r:ResultVar)=>(match r with| .tmp t=>(pure (tmps.getD t undef):Sem Value)| .cell x t=>do loadVar t (<-asAddr (tmps.getD x undef)))).run P w= .ok us w):
  (results fn tmps).run P w= .ok (if hh:us.toArray.size=1 then us.toArray[0]else .tuple us.toArray) w:=by
 have e:results fn tmps=(do
   let vs <-fn.results.mapM fun(r:ResultVar)=>(match r with| .tmp t=>(pure (tmps.getD t undef):Sem Value)| .cell x t=>do loadVar t (<-asAddr (tmps.getD x undef)))
   pure (if h:vs.size=1 then vs[0]else .tuple vs)):=by
  rfl
 rw[e,Array.mapM_eq_mapM_toList];simp_all
def acZ (h:Pw (VR φ w S) ds vs):VR φ w S (one ds) (if hh:vs.toArray.size=1 then vs.toArray[0]else .tuple vs.toArray):=by
 have hlen:=h.1;unfold one;split
 ·obtain⟨v,r,rfl,h1,h2⟩:=h.cons_inv;simp_all
 ·have:vs.toArray.size≠1:=by
   intro hs;match ds,hlen with
   |[],hl=>simp_all
   |[d],_=>simp_all
   |_::_::_,hl=>simp_all
  rw[dif_neg this];exact⟨_,rfl,VRs_iff.2 (by omega)⟩
def PD:∀{ds:List D} {vs:List Value} {hp:List Ob} {S:Nat->Prop},HR φ w S hp->Pw (VR φ w S) ds vs->∃S',HR φ w S' (uC hp ds).2/\Pw (VR φ w S') (uC hp ds).1 vs/\Fr (bs φ hp) S w (bs φ (uC hp ds).2) S' w/\(uC hp ds).2.length=hp.length
 |[],vs,hp,S,hr,h=>⟨S,hr,by obtain rfl:=h.nil_inv;exact Pw.nil,Fr.refl _ _ _,rfl⟩
 |d::r,vs,hp,S,hr,h=>by
  obtain⟨v,us,rfl,h1,h2⟩:=h.cons_inv;simp only[uC];split
  ·rename_i x hx;have hz:((dids d).map fun i=>(i,aX hp i))=(dids d).zip ((dids d).map (aX hp)):=(vW (aX hp) _).symm;rw[hz]at hx ⊢
   obtain⟨k1,k2⟩:=hr.freeze (dids d);have hv:=qL hr (S':=Uf φ S hp (dids d)) (fun _ h=> .inl h) wb _ hx h1;obtain⟨S',q1,q2,q3,q4⟩:=PD k1 (h2.mono fun _ _ hh=>k8 (Ext.refl φ) (fun _ _=>rfl) (fun _ h=> .inl h) _ hh);refine⟨S',q1,Pw.cons ?_ q2,k2.trans q3,by rw[q4,bJ]⟩
   exact bN (fun _ _=>rfl) q3.sub _ hv
  ·obtain⟨S',q1,q2,q3,q4⟩:=PD hr h2;exact⟨S',q1,Pw.cons (k8 (Ext.refl φ) (fun _ _=>rfl) q3.sub _ (SW h1)) q2,q3,q4⟩
def acn (hr:HR φ w S hp)(h:Pw (VR φ w S) ds vs)(hm:m<=hp.length)(fz:Bool):
  ∃φ' S',VR φ' w S' (kX m fz ds hp).1 (if hh:vs.toArray.size=1 then vs.toArray[0]else .tuple vs.toArray)/\HR φ' w S' (kX m fz ds hp).2/\Fr (bs φ hp) S w (bs φ' (kX m fz ds hp).2) S' w/\∀id,id<m->φ'[id]?=φ[id]?:=by
 have key:∀(ds:List D) (hp:List Ob) (S:Nat->Prop),HR φ w S hp->Pw (VR φ w S) ds vs->m<=hp.length->∀ids,ids=close hp bi (dids.didsL ds++(hp.take m).flatMap ky) (List.range m)->
   ∃φ',VR φ' w S (mapD (idx ids) (one ds)) (if hh:vs.toArray.size=1 then vs.toArray[0]else .tuple vs.toArray)/\HR φ' w S (bZ ids hp)/\Fr (bs φ hp) S w (bs φ' (bZ ids hp)) S w/\∀id,id<m->φ'[id]?=φ[id]?:=by
  rintro ds hp S hr h hm ids rfl
  have hnd:=(fh (hp:=hp) bi (dids.didsL ds++(hp.take m).flatMap ky) (List.range m) List.nodup_range).1;exact⟨_,AK (rd _ φ) _ (acZ h),hr.shrink hnd,(Fr.refl _ _ _).less fun b hb=>SG hr _ hb,fun id hid=>EL (by rw[hr.len];exact hm) hid⟩
 unfold kX;cases fz with
 |false=>
  simp only[cond_false];obtain⟨φ',h1,h2,h3,h4⟩:=key ds hp S hr h hm _ rfl;exact⟨φ',S,h1,h2,h3,h4⟩
 |true=>
  simp only[cond_true];obtain⟨S',q1,q2,q3,q4⟩:=PD hr h;obtain⟨φ',h1,h2,h3,h4⟩:=key _ _ S' q1 q2 (by rw[q4];exact hm) _ rfl;exact⟨φ',S',h1,h2,q3.trans h3,h4⟩
def acp [Mv](hmm:m<=hp.length)(hcall:gA P G call)(hmix:P.follows .mixedOrders=true){f aH:Nat}{fn:Func}{x:Fx}(hf:P.funcs[f]?=some fn)(hx:Vw P G raw fn x){r:D}{out:List Ob}(hev:qO m call aH x ds hp=some (r,out))(hr:HR φ w S hp)(hg:GR G w S)(hv:Pw (VR φ w S) ds vs):Calls P f vs.toArray w (RetOk φ hp w S r out m):=by
 obtain⟨hb,hres⟩:=hx;cases hbody:fn.body with
 |none=>rw[hbody]at hb;simp at hb
 |some c=>
  rw[hbody]at hb;simp only at hb;have rel:rB G fn.ntmps {tmps:=vs.toArray++Array.replicate (fn.ntmps - vs.toArray.size) undef,defers:=[]} φ w S ⟨fe ds 0,hp⟩:=⟨Vo hv _,hg,hr,by simp;omega,rfl⟩
  have kX:∀{ex:Ex} {st1:St} {es:List D},cr call aH m x.body ⟨fe ds 0,hp⟩=some (ex,st1)->(ex= .norm\/ex= .ret)->lR st1 x.res=some es->(r,out)=kX m x.fz es st1.hp->Calls P f vs.toArray w (RetOk φ hp w S r out m):=by
   intro ex st1 es h1 hex h2 h3;refine calls_of_wp hf hbody (wp_mono (adI (m:=m) hcall hmix x.body hb h1 rel hmm) ?_);rintro e a1 w1 ⟨he,φ1,S1,r1,r2,r3,r4⟩;have fin2:a1.defers=[]/\∃v,(results fn a1.tmps).run P w1= .ok v w1/\RetOk φ hp w S r out m (.returned v) w1:=by
    refine⟨r1.defers,?_⟩;obtain⟨us,g1,g2⟩:=Th (P:=P) r1 hres h2;obtain⟨φ2,S2,q1,q2,q3,q4⟩:=acn r1.hr g2 r4 x.fz;rw[<-h3]at q1 q2 q3;refine⟨_,?_,φ2,S2,q1,q2,r2.trans q3,fun id hid=>(q4 id hid).trans (r3 id hid)⟩
    exact Nm g1
   cases e with
   |normal=>exact fin2
   |ret=>exact fin2
   |exit i=>simp only[C7]at he;rcases hex with rfl|rfl<;>simp at he
   |goto l=>exact he.elim
   |panic ch=>exact he.elim
   |outgrown=>exact he.elim
  unfold qO at hev;split at hev
  ·rename_i st1 h1;split at hev
   ·rename_i es h2;simp only[lβ]at hev;exact kX h1 (.inl rfl) h2 hev.symm
   ·simp at hev
  ·rename_i st1 h1;split at hev
   ·rename_i es h2;simp only[lβ]at hev;exact kX h1 (.inr rfl) h2 hev.symm
   ·simp at hev
  ·simp at hev
def iK (P:Program)(G:bV)(f:Nat)(g:LD->Option (D×List Ob)):Prop:=
 ∀xs r out,g xs=some (r,out)->dO P f/\∀w S vs,(∀b,S b->b<w.heap.size)->GR G w S->Pw (PR w S) xs vs->Calls P f vs.toArray w (RetOk [] [] w S r out 0)
def ads [Mv](P:Program)(G:bV)(f:Nat)(g:List D->List Ob->Option (D×List Ob)):Prop:=
 ∀ds hp r out,g ds hp=some (r,out)->dO P f/\∀φ w S vs,HR φ w S hp->GR G w S->Pw (VR φ w S) ds vs->Calls P f vs.toArray w (RetOk φ hp w S r out (eH f ds hp.length))
structure xG [Mv](P:Program)(G:bV)(tab:Nat->Option Fn):Prop where
 code : ∀ f x, tab f = some (.code x) → ∃ fn raw, P.funcs[f]? = some fn ∧ Vw P G raw fn x ∧ (fn.name == "runtime.NumGoroutine") = false
 prim:∀f g,tab f=some (.prim g)->iK P G f g
 both : ∀ f g x, tab f = some (.both g x) → iK P G f g ∧ ∃ fn raw, P.funcs[f]? = some fn ∧ Vw P G raw fn x ∧ (fn.name == "runtime.NumGoroutine") = false
 any:∀f g,tab f=some (.any g)->ads P G f g
def wy [Mv] (hmix : P.follows .mixedOrders = true) {call : aw} (hc : gA P G call) {f aH : Nat} {fn : Func} {raw : Nat → Bool} {x : Fx} (h1 : P.funcs[f]? = some fn) (h2 : Vw P G raw fn x) (h3 : (fn.name == "runtime.NumGoroutine") = false) {ds : List D} {hp : List Ob} {r : D} {out : List Ob} (h : qO (eH f ds hp.length) call aH x ds hp = some (r, out)) :
  dO P f/\∀φ w S vs,HR φ w S hp->GR G w S->Pw (VR φ w S) ds vs->Calls P f vs.toArray w (RetOk φ hp w S r out (eH f ds hp.length)):=by
 refine⟨⟨fn,h1,?_,h3⟩,fun φ w S vs hr hg hv=>acp (uN _ _ _) hc hmix h1 h2 h hr hg hv⟩
 cases hb:fn.body with
 |none=>obtain⟨h4,_⟩:=h2;simp_all
 |some c=>rfl
def E9 {f:Nat}{g:LD->Option (D×List Ob)}(hg:iK P G f g){xs:LD}(hxs:ko ds=some xs){r:D}{out:List Ob}(h:g xs=some (r,out)):
  dO P f/\∀φ w S vs,HR φ w S []->GR G w S->Pw (VR φ w S) ds vs->Calls P f vs.toArray w (RetOk φ [] w S r out 0):=by
 obtain⟨h1,h2⟩:=hg xs r out h;refine⟨h1,fun φ w S vs hr hgr hv=>?_⟩
 have hφ:φ=[]:=lμ (by rw[hr.len];rfl);subst hφ;exact h2 w S vs hr.low hgr (uf hxs hv)
def ux [Mv](hmix:P.follows .mixedOrders=true){tab:Nat->Option Fn}(ht:xG P G tab):∀n,gA P G (evFn tab n)
 |0=>by intro f ds hp r out h;simp[evFn]at h
 |n+1=>by
  intro f ds hp r out h;simp only[evFn]at h;split at h
  ·rename_i x hx;obtain⟨fn,raw,h1,h2,h3⟩:=ht.code f x hx;exact wy hmix (ux hmix ht n) h1 h2 h3 h
  ·rename_i g hg;split at h
   ·rename_i xs hxs;split at h
    ·rw[List.length_nil,Bs];exact E9 (ht.prim f g hg) hxs h
    ·simp at h
   ·simp at h
  ·rename_i g x hx;obtain⟨hg,fn,raw,h1,h2,h3⟩:=ht.both f g x hx;split at h
   ·rename_i xs hxs;split at h
    ·rw[List.length_nil,Bs];exact E9 hg hxs h
    ·exact wy hmix (ux hmix ht n) h1 h2 h3 h
   ·exact wy hmix (ux hmix ht n) h1 h2 h3 h
  ·rename_i g hg;exact ht.any f g hg ds hp r out h
  ·simp at h
end
end
end Go.Ab
