import Derived.Test.YtmnmeiibmgcddaaGreatDoorAm1
import Derived.Laws.Externs
import Derived.Orders
set_option linter.all false
namespace Go.Ab
open Go
section
variable [Letters]
def Ren (σ:Nat->Option Nat)(φ φ':List cQ):Prop:=∀i j,σ i=some j->∀l,φ[i]?=some l->l≠ .none->φ'[j]?=some l
mutual
def xB {σ:Nat->Option Nat}{φ φ':List cQ}{w:World}{S:Nat->Prop}(hσ:Ren σ φ φ'):∀(d:D) {v:Value},VR φ w S d v->VR φ' w S (mapD σ d) v
 | .p x,v,h=>by simpa only[mapD,VR]using h
 | .agg ds,v,h=>by
  simp only[mapD,VR]at h ⊢
  obtain⟨vs,rfl,h1,h2⟩:=h;exact⟨vs,rfl,qT hσ ds h1,h2⟩
 | .tup ds,v,h=>by
  simp only[mapD,VR]at h ⊢
  obtain⟨vs,rfl,h1⟩:=h;exact⟨vs,rfl,qT hσ ds h1⟩
 | .box id off,v,h=>by
  simp only[mapD];split
  ·rename_i j hj;simp only[VR]at h ⊢
   obtain⟨b,h1,rfl⟩:=h;exact⟨b,hσ _ _ hj _ h1 (by simp),rfl⟩
  ·simp only[VR]
 | .el id i off,v,h=>by
  simp only[mapD];split
  ·rename_i j hj;simp only[VR]at h ⊢
   obtain⟨b,o,cap,z,n,h1,h2,rfl⟩:=h;exact⟨b,o,cap,z,n,hσ _ _ hj _ h1 (by simp),h2,rfl⟩
  ·simp only[VR]
 | .ip x off,v,h=>by simpa only[mapD,VR]using h
 | .arr id lo len z,v,h=>by
  simp only[mapD];split
  ·rename_i j hj;simp only[VR]at h ⊢
   obtain⟨b,o,cap,n,a,h1,h2⟩:=h;exact⟨b,o,cap,n,a,hσ _ _ hj _ h1 (by simp),h2⟩
  ·simp only[VR]
 | .sl g z es,v,h=>by simpa only[mapD,VR]using h
 | .map id,v,h=>by
  simp only[mapD];split
  ·rename_i j hj;simp only[VR]at h ⊢
   obtain⟨r,h1,rfl⟩:=h;exact⟨r,hσ _ _ hj _ h1 (by simp),rfl⟩
  ·simp only[VR]
 | .fn f caps,v,h=>by
  simp only[mapD,VR]at h ⊢
  obtain⟨fs,cs,rfl,hk,h1⟩:=h;exact⟨fs,cs,rfl,hk,qT hσ caps h1⟩
 | .iface t d,v,h=>by
  simp only[mapD,VR]at h ⊢
  obtain⟨u,rfl,h1⟩:=h;exact⟨u,rfl,xB hσ d h1⟩
 | .junk,v,h=>by simp only[mapD,VR]
def qT {σ:Nat->Option Nat}{φ φ':List cQ}{w:World}{S:Nat->Prop}(hσ:Ren σ φ φ'):∀(ds:List D) {vs:List Value},zF φ w S ds vs->zF φ' w S (mapD.mapDL σ ds) vs
 |[],vs,h=>by simpa only[mapD.mapDL,zF]using h
 |d::r,vs,h=>by
  simp only[mapD.mapDL,zF]at h ⊢
  obtain⟨u,us,rfl,h1,h2⟩:=h;exact⟨u,us,rfl,xB hσ d h1,qT hσ r h2⟩
end
variable {σ:Nat->Option Nat} {φ:List cQ}
def J5 {φ':List cQ}{w:World}{S:Nat->Prop}(hσ:Ren σ φ φ'){ds:List D}{vs:List Value}(h:Pw (VR φ w S) ds vs):Pw (VR φ' w S) (mapD.mapDL σ ds) vs:=
 VRs_iff.1 (qT hσ ds (VRs_iff.2 h))
def ŋ (σ:Nat->Option Nat)(cs:List D)(h:b3 (mapD.mapDL σ cs)=true):b3 cs=true:=by
 have hl:∀cs:List D,(mapD.mapDL σ cs).length=cs.length:=fun cs=>by
  induction cs with
  |nil=>rfl
  |cons d r ih=>simp only[mapD.mapDL,List.length_cons,ih]
 unfold b3 at h ⊢
 rw[hl]at h;rw[lγ]at h ⊢
 refine⟨h.1,?_⟩;cases cs with
 |nil=>exact h.2
 |cons d r=>
  have h2:=h.2;simp only[mapD.mapDL]at h2;cases d with
  |p x=>cases x<;>first|rfl|exact absurd h2 (by simp[mapD,pH])
  |box i o=>rfl
  |agg ds=>cases h2
  |tup ds=>cases h2
  |el i j o=>simp only[mapD]at h2;split at h2<;>cases h2
  |ip x o=>cases h2
  |arr i a b c=>simp only[mapD]at h2;split at h2<;>cases h2
  |sl g z es=>cases h2
  |map i=>simp only[mapD]at h2;split at h2<;>cases h2
  |fn f ds=>cases h2
  |iface t d=>cases h2
  |junk=>cases h2
def SB {φ':List cQ}{w:World}{S:Nat->Prop}(hσ:Ren σ φ φ'){l:cQ}{o:Ob}(h:OR φ w S l o):OR φ' w S l (cm σ o):=by
 cases o with
 |box cs=>
  cases l with
  |box b=>
   simp only[OR]at h;simp only[cm,OR];obtain⟨vs,t,fz,h1,h2,h3,h4,h5⟩:=h;exact⟨vs,t,fz,h1,h2,J5 hσ h3,h4,fun hh=>h5 (ŋ σ cs hh)⟩
  |_=>simp only[OR]at h
 |arr es=>cases l<;>simpa only[OR,cm]using h
 |fz es=>cases l<;>simpa only[OR,cm]using h
 |byt es=>cases l<;>simpa only[OR,cm]using h
 |may c es=>cases c<;>cases l<;>simpa only[OR,cm]using h
 |map ks vs=>cases l<;>simpa only[OR,cm]using h
 |fzm ks vs=>cases l<;>simpa only[OR,cm]using h
 |mapd ks vs=>
  cases l with
  |map r=>
   simp only[OR]at h;simp only[cm,OR];obtain⟨es,c,h1,h2,h3⟩:=h;exact⟨es,c,h1,h2,J5 hσ h3⟩
  |_=>simp only[OR]at h
 |dead=>cases l<;>simp only[OR,cm]
 |unborn=>cases l<;>simpa only[OR,cm]using h
def rS (σ:Nat->Option Nat)(l:cQ)(o:Ob):bM l (cm σ o)=bM l o:=by
 cases o<;>cases l<;>rfl
def VC {id:Nat}:∀{ids:LN} {n j:Nat},idx.go id ids n=some j->n<=j/\ids[j - n]?=some id
 |[],n,j,h=>by simp[idx.go]at h
 |x::r,n,j,h=>by
  simp only[idx.go]at h;rw[beq_eq]at h;by_cases hx:x=id
  ·simp_all
  ·simp[hx]at h;obtain⟨h1,h2⟩:=VC h;grind
variable {ids:LN} {id:Nat}
def Hf {j:Nat}(h:idx ids id=some j):ids[j]?=some id:=by
 have:=(VC (n:=0) h).2;omega
def ym {id:Nat}:∀{ids:LN} {n:Nat},id∈ids->∃j,idx.go id ids n=some j
 |[],n,h=>by simp at h
 |x::r,n,h=>by
  simp only[idx.go];rw[beq_eq];by_cases hx:x=id
  ·simp[hx]
  ·simp only[hx,cond_false];exact ym ((mγ.1 h).resolve_left fun e=>hx e.symm)
def BR (h:ids.Nodup){i j x:Nat}(hi:ids[i]?=some x)(hj:ids[j]?=some x):i=j:=by
 have hlt:i<ids.length:=by
  grind
 exact(List.getElem?_inj hlt h).1 (hi.trans hj.symm)
variable {k:Nat}
def K2 (h:ids.Nodup)(hk:ids[k]?=some id):idx ids id=some k:=by
 obtain⟨j,hj⟩:=ym (n:=0) (mθ hk);have hj':idx ids id=some j:=hj;rw[hj',BR h (Hf hj') hk]
def jl (ids:LN)(φ:List cQ):List cQ:=ids.map fun i=>φ.getD i .none
def oO (ids:LN)(φ:List cQ):Ren (idx ids) φ (jl ids φ):=by
 intro i j hj l hl _;have:=Hf hj;simp[jl,this,hl]
section
variable {φ:List cQ} {w:World} {S:Nat->Prop} {hp:List Ob}
def wn (hr:HR φ w S hp){l:cQ}{o:Ob}(h1:(jl ids φ)[k]?=some l)(h2:(cb ids hp)[k]?=some o):∃i,ids[k]?=some i/\((φ[i]?=some l/\∃o0,hp[i]?=some o0/\o=cm (idx ids) o0)\/(φ[i]?=none/\l= .none/\o= .dead)):=by
 simp only[jl,cb,lσ,mρ]at h1 h2;obtain⟨i,hi,rfl⟩:=h1;obtain⟨i',hi',rfl⟩:=h2;rw[hi]at hi';simp at hi';subst hi';refine⟨i,hi,?_⟩;rcases mδ i hp.length with hlt|hge
 ·have h3:i<φ.length:=by rw[hr.len];exact hlt
  refine .inl ⟨by simp_all,hp[i],lη hlt,?_⟩
  rw[wt (lη hlt)]
 ·have h3:φ.length<=i:=by rw[hr.len];exact hge
  refine .inr ⟨lυ h3,by simp_all,?_⟩
  simp[aS,lυ hge,cm]
def qn (hr:HR φ w S hp){b:Nat}(h:bm (jl ids φ) (cb ids hp) b):sY φ hp (· ∈ids) b:=by
 obtain⟨k,l,o,h1,h2,h3⟩:=h;obtain⟨i,hi,(⟨g1,o0,g2,rfl⟩|⟨_,rfl,rfl⟩)⟩:=wn hr h1 h2
 ·rw[rS]at h3;exact⟨i,l,o0,mθ hi,g1,g2,h3⟩
 ·simp[bM]at h3
def HR.shrink (hr:HR φ w S hp)(hnd:ids.Nodup):HR (jl ids φ) w S (cb ids hp) where
 len:=by simp[jl,cb]
 obj k l o h1 h2:=by
  obtain⟨i,hi,(⟨g1,o0,g2,rfl⟩|⟨_,rfl,rfl⟩)⟩:=wn hr h1 h2
  ·exact SB (oO ids φ) (hr.obj i l o0 g1 g2)
  ·simp only[OR]
 own b hb:=by
  obtain⟨i,l,o,_,h1,h2,h3⟩:=qn hr hb;exact hr.own b ⟨i,l,o,h1,h2,h3⟩
 one k k' l l' o o' b h1 h2 h1' h2' h3 h3':=by
  obtain⟨i,hi,(⟨g1,o0,g2,rfl⟩|⟨_,rfl,rfl⟩)⟩:=wn hr h1 h2
  ·obtain⟨i',hi',(⟨g1',o0',g2',rfl⟩|⟨_,rfl,rfl⟩)⟩:=wn hr h1' h2'
   ·rw[rS]at h3 h3';have:=hr.one i i' l l' o0 o0' b g1 g2 g1' g2' h3 h3';subst this;exact BR hnd hi hi'
   ·simp[bM]at h3'
  ·simp[bM]at h3
 low:=hr.low
def NJ (hr:HR φ w S hp)(ids:LN){b:Nat}(h:bm (jl ids φ) (cb ids hp) b):bm φ hp b:=by
 obtain⟨i,l,o,_,h1,h2,h3⟩:=qn hr h;exact⟨i,l,o,h1,h2,h3⟩
end
def fc {hp:List Ob}:∀(n:Nat) (ws acc:LN),acc.Nodup->(cF hp n ws acc).Nodup/\acc <+: cF hp n ws acc
 |0,ws,acc,h=>by simp only[cF];simp_all
 |n+1,[],acc,h=>by simp only[cF];simp_all
 |n+1,id::ws,acc,h=>by
  simp only[cF];split
  ·exact fc n ws acc h
  ·have hni:id∉acc:=by simp_all
   obtain⟨h1,h2⟩:=fc (hp:=hp) n (hO (hp.getD id .dead)++ws) (acc++[id]) (by
    grind)
   exact⟨h1,(List.prefix_append _ _).trans h2⟩
variable {ws:LN}
def GO {hp:List Ob}{n m:Nat}(hk:k<m):(cF hp n ws (List.range m))[k]?=some k:=by
 obtain⟨r,hr⟩:=(fc (hp:=hp) n ws (List.range m) List.nodup_range).2;grind
def BG {hp:List Ob}{n m:Nat}(hm:m<=φ.length)(hid:id<m):(jl (cF hp n ws (List.range m)) φ)[id]?=φ[id]?:=by
 simp only[jl,lσ,GO hid,Option.map_some];grind
def yl {out:LN}{f:D->D}{tm:Tm}{t:Nat}:get (fD out f tm) t=if t∈out then f (get tm t)else .junk:=by
 induction out with
 |nil=>rfl
 |cons s r ih=>
  simp only[fD,get];rw[beq_eq];grind
end
section
variable [Letters]
def RetOk (φ:List cQ)(hp:List Ob)(w:World)(S:Nat->Prop)(r:D)(out:List Ob)(m:Nat):Ending->World->Prop
 | .returned v,w'=>∃φ' S',VR φ' w' S' r v/\HR φ' w' S' out/\Fr (bm φ hp) S w (bm φ' out) S' w'/\∀id,id<m->φ'[id]?=φ[id]?
 |_,_=>False
def eV (P : Program) (f : Nat) : Prop := ∃ fn, P.funcs[f]? = some fn ∧ fn.body.isNone = false ∧ (fn.name == "runtime.NumGoroutine") = false
def eK [Mv](P:Program)(G:bP)(call:aG):Prop:=
 ∀f ds hp r out,call f ds hp=some (r,out)->eV P f/\∀φ w S vs,HR φ w S hp->GR G w S->Pw (VR φ w S) ds vs->Calls P f vs.toArray w (RetOk φ hp w S r out (eH f ds hp.length))
theorem rG [Mv](f:Nat)(ds:List D)(n:Nat):eH f ds n<=n:=by
 unfold eH;grind
def yq [Mv](f:Nat)(ds:List D):eH f ds 0=0:=Nat.le_zero.1 (rG f ds 0)
variable {f:Nat}
def K5 [Mv](h:Mv.mv f=false)(ds:List D)(n:Nat):eH f ds n=n:=by
 unfold eH;grind
variable {m:Nat}
def RetOk.le {φ:List cQ}{hp:List Ob}{w:World}{S:Nat->Prop}{r:D}{out:List Ob}{m':Nat}(hm:m'<=m){e:Ending}{w':World}(h:RetOk φ hp w S r out m e w'):RetOk φ hp w S r out m' e w':=by
 cases e with
 |returned v=>
  obtain⟨φ',S',h1,h2,h3,h4⟩:=h;exact⟨φ',S',h1,h2,h3,fun id hid=>h4 id (by omega)⟩
 |panicked c=>exact h
 |outgrown=>exact h
section
variable {P:Program} {G:bP} {φ:List cQ} {w:World} {S:Nat->Prop} {hp:List Ob} {d:D} {ups:List (Nat×Ob)} {new:List Ob}
def Mb (ids:LN)(hp:List Ob):(ids.map (aS hp)).map (cm (idx ids))=cb ids hp:=by
 simp[cb,List.map_map]
def Rl (m:Nat)(ids:LN)(os:List Ob):List (Nat×Ob):=(ids.take m).zip os++(ids.drop m).map fun i=>(i,.dead)
def f_ (m:Nat)(ids:LN)(os:List Ob)(i:Nat):Ob:=bif Nat.blt ((idx ids i).getD 0) m then os.getD ((idx ids i).getD 0) .dead else .dead
variable {ids:LN}
def Ot (hnd:ids.Nodup){os:List Ob}(hm:m<=ids.length)(hle:m<=os.length):Rl m ids os=ids.map fun i=>(i,f_ m ids os i):=by
 unfold Rl;have hz:∀k:Nat,((ids.take m).zip os)[k]?=((ids.take m)[k]?).bind fun i=>(os[k]?).map fun o=>(i,o):=by
  grind
 have hzl:((ids.take m).zip os).length=m:=by simp_all
 apply List.ext_getElem?;intro k;rw[lσ];by_cases hk:k<m
 ·have hki:k<ids.length:=by omega
  have hko:k<os.length:=by omega
  rw[lι (by omega),hz,List.getElem?_take,if_pos hk,lη hki];have hat:ids[k]?=some ids[k]:=lη hki;have hbl:Nat.blt k m=true:=by simp_all
  simp only[Option.bind_some,lη hko,Option.map_some,f_,K2 hnd hat,Option.getD_some,hbl,cond_true,mξ]
 ·rw[lπ (by omega),hzl,lσ,List.getElem?_drop,show m+(k - m)=k by omega];cases hki:ids[k]? with
  |none=>rfl
  |some i=>
   have hbl:Nat.blt k m=false:=by rw[blt_eq];simp_all
   simp only[Option.map_some,f_,K2 hnd hki,Option.getD_some,hbl,cond_false]
def YP (hnd:ids.Nodup){out:List Ob}(hm:m<=ids.length)(hle:m<=out.length){φ':List cQ}(hl:φ'.length=out.length)(hlen:φ.length=hp.length)(hlow:∀k,k<m->φ'[k]?=(jl ids φ)[k]?){σ:Nat->Option Nat}{id:Nat}{l:cQ}{o:Ob}(hc:id∈ids\/hp.length<=id)(h1:(φ++φ'.drop m)[id]?=some l)(h2:(grow (aw hp (Rl m ids (out.map (cm σ)))) ((out.map (cm σ)).drop m))[id]?=some o):
  o= .dead\/∃k o0,φ'[k]?=some l/\out[k]?=some o0/\o=cm σ o0/\((id<hp.length/\k<m/\ids[k]?=some id)\/(hp.length<=id/\k=m+(id - hp.length))):=by
 have hgrow:∀(a b:List Ob),grow a b=a++b:=by intro a b;cases b<;>simp[grow]
 rw[hgrow]at h2;by_cases hlt:id<hp.length
 ·have hmem:=hc.resolve_right (by omega);obtain⟨k,hk⟩:=List.getElem?_of_mem hmem;have hkl:k<ids.length:=by
   rcases mδ k ids.length with h|h
   ·exact h
   ·simp[lυ h]at hk
  rw[lι (by rw[bH];exact hlt),Ot hnd hm (by simpa using hle),fE (g:=f_ m ids (out.map (cm σ))),if_pos ⟨hmem,hlt⟩]at h2;rw[lι (by omega)]at h1;simp only[f_,K2 hnd hk,Option.getD_some]at h2;by_cases hkm:k<m
  ·have hko:k<out.length:=by omega
   have hbl:Nat.blt k m=true:=by rw[blt_eq];simpa using hkm
   rw[hbl]at h2;refine .inr ⟨k,out[k],?_,lη hko,?_,.inl ⟨hlt,hkm,hk⟩⟩
   ·rw[hlow k hkm];simp[jl,hk,h1]
   ·simp[hko]at h2;exact h2.symm
  ·have hbl:Nat.blt k m=false:=by rw[blt_eq];simpa using hkm
   rw[hbl]at h2;simp only[cond_false,lβ]at h2;exact .inl h2.symm
 ·have hge:hp.length<=id:=Nat.le_of_not_lt hlt;rw[lπ (by rw[bH];exact hge),bH,List.getElem?_drop,lσ,mρ]at h2;rw[lπ (by omega),List.getElem?_drop,hlen]at h1;obtain⟨o0,ho,rfl⟩:=h2;exact .inr ⟨m+(id - hp.length),o0,h1,ho,rfl,.inr ⟨hge,rfl⟩⟩
variable {vs:List Value}
def xV {call:aG}(hr:HR φ w S hp)(hg:GR G w S){ds:List D}(hv:Pw (VR φ w S) ds vs)(hnd:ids.Nodup)(hm:m<=ids.length)(hcall:∀r out,call f (mapD.mapDL (idx ids) ds) (cb ids hp)=some (r,out)->eV P f/\∀φ w S vs,HR φ w S (cb ids hp)->GR G w S->Pw (VR φ w S) (mapD.mapDL (idx ids) ds) vs->Calls P f vs.toArray w (RetOk φ (cb ids hp) w S r out m))(h:jy call f ds m ids (ids.map (aS hp)) hp.length=some (d,ups,new)):
  eV P f/\Calls P f vs.toArray w (RetOk φ hp w S d (grow (aw hp ups) new) hp.length):=by
 unfold jy at h;rw[Mb]at h;split at h
 ·simp at h
 ·rename_i r out hcl;rw[ble_eq]at h;by_cases hle:m<=out.length
  ·simp only[hle,lτ]at h;obtain⟨rfl,rfl,rfl⟩:=h;refine⟨(hcall r out hcl).1,((hcall r out hcl).2 (jl ids φ) w S vs (hr.shrink hnd) hg (J5 (oO ids φ) hv)).mono fun e w' he=>?_⟩
   cases e with
   |panicked c=>exact he
   |outgrown=>exact he
   |returned v=>
    obtain⟨φ',S',h1,h2,h3,h4⟩:=he;have hlen:=hr.len;have hl:=h2.len;have hgrow:∀(a b:List Ob),grow a b=a++b:=by intro a b;cases b<;>simp[grow]
    have hlo:∀id,id<hp.length->(φ++φ'.drop m)[id]?=φ[id]?:=fun id hid=>lι (by omega)
    have hups:((ids.take m).zip (out.map (cm (back m hp.length ids out.length)))++(ids.drop m).map fun i=>(i,.dead))=Rl m ids (out.map (cm (back m hp.length ids out.length))):=rfl
    have hren:Ren (back m hp.length ids out.length) φ' (φ++φ'.drop m):=by
     intro k j hj l hl1 hn;unfold back at hj;rw[blt_eq,blt_eq]at hj;by_cases hk:k<m
     ·rw[h4 k hk]at hl1;simp only[jl,lβ]at hl1;grind
     all_goals grind
    have hext:Ext φ (φ++φ'.drop m):=by
     intro id l hl1 _;grind
    have hoc:∀b,bm (jl ids φ) (cb ids hp) b->sY φ hp (fun id=>id∈ids\/hp.length<=id) b:=by
     intro b hb;obtain⟨i,l,o,hc,g1,g2,g3⟩:=qn hr hb;exact⟨i,l,o,.inl hc,g1,g2,g3⟩
    have hat:=fun {id l o} (hc:id∈ids\/hp.length<=id) (q1:(φ++φ'.drop m)[id]?=some l) (q2:(grow (aw hp (Rl m ids (out.map (cm (back m hp.length ids out.length))))) ((out.map (cm (back m hp.length ids out.length))).drop m))[id]?=some o)=>
     YP hnd hm hle hl hlen h4 hc q1 q2
    have hdead:∀{l:cQ} {b:Nat},bM l .dead=some b->False:=fun {l b} h=>by cases l<;>simp[bM]at h
    obtain⟨k1,k2⟩:=hr.gen (φ':=φ++φ'.drop m) (hp':=grow (aw hp (Rl m ids (out.map (cm (back m hp.length ids out.length))))) ((out.map (cm (back m hp.length ids out.length))).drop m)) (S':=S') (w':=w') (fun id=>id∈ids\/hp.length<=id)
     (by rw[hgrow];simp[bH];omega)
     (fun id hc=>by
      simp at hc;refine⟨hlo id hc.2,?_⟩;rw[hgrow,lι (by rw[bH];omega),Ot hnd hm (by simp_all),fE (g:=f_ m ids (out.map (cm (back m hp.length ids out.length)))),if_neg (fun hh=>hc.1 hh.1)])
     hext
     (fun b hb hc=>h3.keep b hb fun ho=>hc (hoc b ho)) h3.size h3.os h3.tape h3.output h3.sub
     (fun b hb=>(h3.news b hb).imp_right (·.imp_left (hoc b))) h2.low
     (fun id l o hc q1 q2=>by
      rcases hat hc q1 q2 with rfl|⟨k,o0,g1,g2,rfl,_⟩
      ·simp only[OR]
      ·exact SB hren (h2.obj k l o0 g1 g2))
     (fun id l o b hc q1 q2 q3=>by
      rcases hat hc q1 q2 with rfl|⟨k,o0,g1,g2,rfl,_⟩
      ·simp_all
      rw[rS]at q3;have hOw:bm φ' out b:=⟨k,l,o0,g1,g2,q3⟩;exact⟨(h3.newo b hOw).imp_left (hoc b),(h2.own b hOw).2,(h2.own b hOw).1⟩)
     (fun id id' l l' o o' b hc hc' q1 q2 q1' q2' q3 q3'=>by
      rcases hat hc q1 q2 with rfl|⟨k,o0,g1,g2,rfl,gk⟩
      ·simp_all
      rcases hat hc' q1' q2' with rfl|⟨k',o0',g1',g2',rfl,gk'⟩
      ·simp_all
      rw[rS]at q3 q3';have:=h2.one k k' l l' o0 o0' b g1 g2 g1' g2' q3 q3';grind)
    exact⟨_,S',xB hren r h1,k1,k2,hlo⟩
  ·simp_all
def Bp (call:aG)(f:Nat)(ds:List D)(ids:LN)(obs:List Ob)(len:Nat):fO call f ds ids obs len=jy call f ds ids.length ids obs len:=by
 unfold fO jy;simp
def Uw [Mv]{call:aG}(hcall:eK P G call)(hr:HR φ w S hp)(hg:GR G w S){ds:List D}(hv:Pw (VR φ w S) ds vs)(hnd:ids.Nodup)(h:nB call f ds ids (ids.map (aS hp)) hp.length=some (d,ups,new)):
  eV P f/\Calls P f vs.toArray w (RetOk φ hp w S d (grow (aw hp ups) new) hp.length):=by
 have hsl:(cb ids hp).length=ids.length:=by simp[cb]
 unfold nB at h;cases hmv:Mv.mv f
 ·rw[hmv]at h;rw[Bp]at h;refine xV hr hg hv hnd (Nat.le_refl _) (fun r out hc=>?_) h;have:=hcall f _ _ r out hc;rw[K5 hmv,hsl]at this;omega
 ·rw[hmv]at h;refine xV hr hg hv hnd (rG _ _ _) (fun r out hc=>?_) h;have:=hcall f _ _ r out hc;simp_all
end
end
section
variable [Letters]
structure nm (G:bP)(N:Nat)(a:Act)(φ:List cQ)(w:World)(S:Nat->Prop)(st:St):Prop where
 tmr:Rp φ w S st.tm a
 gr:GR G w S
 hr:HR φ w S st.hp
 size:N<=a.tmps.size
 defers:a.defers=[]
variable {φ:List cQ} {w:World}
def nm.cx {G:bP}{N:Nat}{a:Act}{S:Nat->Prop}{st:St}(h:nm G N a φ w S st):Cx G a φ w S st.hp st.tm:=⟨h.tmr,h.gr,h.hr⟩
def HX {S:Nat->Prop}{d:D}{v:Value}(h:VR φ w S d v):VR φ w S (HV d) v:=by
 cases d<;>simp only[HV]<;>first
  |exact h
  |(
    obtain⟨a,cap,us,rfl,h1,_,h3,h4⟩:=h;simp only[VR,PR];grind)
variable {vs:List Value}
def HW {S:Nat->Prop}{ds:List D}(h:Pw (VR φ w S) ds vs):Pw (VR φ w S) (ds.map HV) vs:=
 Pw.map_left (h.mono fun _ _ hh=>HX hh)
def NV {S:Nat->Prop}{d:D}{v:Value}(h:VR φ w S d v):VR φ w S (norm d) v:=by
 cases d with
 |sl g z es=>exact HX h
 |agg ds=>
  obtain⟨vs,rfl,h1,h2⟩:=h;have:=nW (HW (VRs_iff.1 h1)) h2;rwa [Array.toArray_toList]at this
 |tup ds=>
  obtain⟨vs,rfl,h1⟩:=h;exact⟨vs,rfl,VRs_iff.2 (HW (VRs_iff.1 h1))⟩
 |_=>exact h
def DO {S:Nat->Prop}{ds:List D}(h:Pw (VR φ w S) ds vs):Pw (VR φ w S) (ds.map norm) vs:=
 Pw.map_left (h.mono fun _ _ hh=>NV hh)
section
variable {P:Program} {G:bP} {N:Nat} {o:Oper} {a:Act} {φ:List cQ} {w:World} {S:Nat->Prop} {hp:List Ob} {tm:Tm} {st st':St} {base:Nat}
variable {f:Nat}
def yc {c:Call}{x:Operand}{fs cs:Array Value}(ho:o.op= .call c)(hc:c.callee= .value x)(hx:a.eval x= .func (.func f) fs cs):
  (execOp a.eval o).run P w=(callFunc f (fs++c.args.map a.eval++cs)).run P w:=by
 simp[execOp,ho,resolve,hc,hx,Deferred.ofValue,invoke]
def qe {c:Call}{x:Operand}{fs cs:Array Value}(ho:o.op= .call c)(hc:c.callee= .value x)(hx:a.eval x= .func (.func f) fs cs)(hf:eV P f):
  (execOp a.eval o).run P w= .ok (.enter f (fs++c.args.map a.eval++cs)) w:=by
 rw[yc ho hc hx];obtain⟨fn,h1,h2,h3⟩:=hf;have h4 : fn.name ≠ "runtime.NumGoroutine" := by simp_all
 have h5:fn.body≠none:=by grind
 simp[callFunc,h1,h5,h4]
def Bv {S:Nat->Prop}{caps args:List D}{fs cs:List Value}(hk:fs.length=Đ f)(hc:Pw (VR φ w S) caps (fs++cs))(ha:Pw (VR φ w S) args vs):Pw (VR φ w S) (gJ f caps args) (fs++vs++cs):=by
 unfold gJ;have h1:=hc.take (Đ f);have h2:=hc.drop (Đ f);rw[<-hk,List.take_left' rfl]at h1;rw[<-hk,List.drop_left' rfl]at h2;rw[lρ,<-hk];exact h1.append (ha.append h2)
variable {q:O}
def Ul {op:BinOp}{t:TypeId}{x y:Operand}(h:Uk P op t x y=some q):em q=false:=by
 unfold Uk at h;simp only[cond_eq_ite]at h;repeat' split at h
 all_goals first
  |grind
  |(simp at h;subst h;rfl)
def PS {s t:TypeId}(h:qZ P s t=some q):em q=false:=by
 unfold qZ at h;simp only[cond_eq_ite]at h;repeat' split at h
 all_goals first
  |grind
  |(simp at h;subst h;rfl)
variable {raw:Nat->Bool} {as:List A}
def PT (hq:Um P G raw o=some (q,as))(hic:em q=true):∃c,o.op= .call c/\nz P G raw c=some (q,as):=by
 unfold Um at hq;all_goals simp_all
 all_goals try simp only[cond_eq_ite]at hq
 all_goals (repeat' split at hq)
 all_goals first
  |grind
  |(obtain⟨_,_,he⟩:=dy hq;cases he;simp[em]at hic;done)
  |(obtain⟨_,_,_,_,he⟩:=iM hq;cases he;simp[em]at hic;done)
  |(obtain⟨rfl,rfl⟩:=bu hq;simp[em]at hic;done)
  |(obtain⟨_,_,_,_,he⟩:=iM hq;cases he;rename_i hcb;rw[Ul hcb]at hic;simp_all)
  |(obtain⟨_,_,he⟩:=dy hq;cases he;rename_i hcb;rw[PS hcb]at hic;simp_all)
  |skip
def Un (hq:Ŕ P G raw o=some (q,as))(hic:em q=true):∃c,o.op= .call c/\nz P G raw c=some (q,as):=by
 unfold Ŕ at hq;split at hq
 ·rename_i r hr;simp at hq;subst hq;exact PT hr hic
 ·obtain⟨rfl,rfl⟩:=hq;cases hic
def GI {c:Call}(hq:nz P G raw c=some (q,as))(hic:em q=true):∃x,c.callee= .value x:=by
 unfold nz at hq;simp only[cond_eq_ite]at hq;repeat' split at hq
 all_goals first
  |grind
  |rfl
  |(obtain⟨rfl,rfl⟩:=bu hq;simp[em]at hic;done)
  |skip
def Q2 {r:Nat}{es:Array MapEntry}{clock t:Nat}(hb:w.heap[r]?=some (.map es clock)):
  (Extern.MapsClone.clone #[.iface t (.map (some r))]).run P w= .ok (.iface t (.map (some w.heap.size))) (w.alloc (.map es clock)):=by
 have e:Extern.MapsClone.clone #[.iface t (.map (some r))]=(getObj r >>= fun o=>match o with
   | .map entries clock=>(newObj (.map entries clock) >>= fun n=>pure (.iface t (.map (some n))))
   | _ => stuck "maps.clone: a map expected") := rfl
 rw[e];simp only[Sem.run_bind,dq hb,Result.andThen_ok];rfl
def KR {fn : Func} (h : fn.name = "maps.clone") : Extern.find fn = some Extern.MapsClone.clone := by
 unfold Extern.find;simp only[h];rfl
def nm.after (h:nm G N a φ w S st){φ':List cQ}{w':World}{S':Nat->Prop}{d:Option Nat}{x:D}{v:Value}{hp':List Ob}(hd:Bq d a)(hv:VR φ' w' S' x v)(hr:HR φ' w' S' hp')(he:Ext φ φ')(hf:Fr (bm φ st.hp) S w (bm φ' hp') S' w'):
  nm G N (a.put d v) φ' w' S' ⟨put d x st.tm,hp'⟩ where
 tmr:=MV hd (iU he (hf.stable h.hr) hf.sub h.tmr) hv
 gr:=vO (hf.stable h.hr) hf.sub h.gr
 hr:=hr
 size:=by have:=h.size;cases d<;>simpa[Act.put]using this
 defers:=by rw[<-h.defers];cases d<;>simp[Act.put]
def HZ {id:Nat}(h:dw (aS hp id)=true):hp[id]?=some .unborn:=by
 cases hc:aS hp id<;>rw[hc]at h<;>simp[dw]at h;exact dH hc (by simp)
def xE [Mv]{call:aG}{kk len:Nat}{vs:List D}{ids:LN}{obs:List Ob}(h:em q=false):sZ call base q kk vs ids obs len=oX call base q kk vs ids obs len:=by
 cases q<;>first|rfl|(simp[em]at h)
def lE [Mv]{vs:List D}{hp:List Ob}(h:em q=false):dM q vs hp=bB q vs hp:=by
 cases q<;>first|rfl|(simp[em]at h)
def nF:∀(ws acc:LN),acc.Nodup->(iY ws acc).Nodup
 |[],acc,h=>h
 |i::r,acc,h=>by
  simp only[iY];cases hc:acc.contains i
  ·refine nF r _ ?_;grind
  ·exact nF r acc h
def mI [Mv](f:Nat)(ws:LN)(hp:List Ob):(mH f ws hp).Nodup:=by
 unfold mH;cases Mv.mv f
 ·exact(fc _ ws [] (by simp)).1
 ·exact(fc _ _ _ (nF _ _ (by simp))).1
def uG [Mv](vs:List D)(hp:List Ob):(pp vs hp).Nodup:=by
 have hc:(bB .callv vs hp).Nodup:=(fc _ (dids.didsL vs) [] (by simp)).1;unfold pp;split
 ·cases Mv.mv _
  ·exact hc
  ·exact mI _ _ _
 ·cases Mv.mv _
  ·exact hc
  ·exact mI _ _ _
 ·exact hc
def Ę [Mv]{call:aG}(hcall:eK P G call)(rel:nm G N a φ w S st){x:eT}(hq:Ŕ P G raw o=some (x.op,x.as))(hdst:x.dst=o.dst)(hN:∀t,o.dst=some t->t<N)(hb:base<=st.hp.length){ft:eE}(hev:oZ call base x st=some (st',ft)){K:Act->World->Prop}{Q:Exit->Act->World->Prop}(hK:∀a' w' φ' S',nm G N a' φ' w' S' st'->Fr (bm φ st.hp) S w (bm φ' st'.hp) S' w'->(∀id,id<base->φ'[id]?=φ[id]?)->K a' w'):o.wp P a w K Q:=by
 have hd:Bq o.dst a:=fun t ht=>mψ (hN t ht) rel.size
 unfold oZ at hev;simp only at hev;cases hmk:(!(ep x.op)||dw (aS st.hp (base+x.k)))with
 |false=>rw[hmk]at hev;simp at hev
 |true=>
  rw[hmk]at hev;simp only[cond_true]at hev;have hmk':ep x.op=true->st.hp[base+x.k]?=some .unborn:=fun h=>by
   rw[h]at hmk;exact HZ (by simpa using hmk)
  split at hev
  ·simp at hev
  ·rename_i d ups new hact;simp only[lβ,lτ]at hev;obtain⟨rfl,rfl⟩:=hev;have gu:EffOk P o a φ w S st.hp base d (grow (aw st.hp ups) new)->o.wp P a w K Q:=by
    rintro⟨v,w',φ',S',h1,h2,h3,h4,h5,h6⟩
    refine h1.wp (hK _ _ φ' S' ?_ h5 h6);rw[hdst];exact rel.after hd h2 h3 h4 h5
   have finc:∀f args,(execOp a.eval o).run P w= .ok (.enter f args) w->Calls P f args w (RetOk φ st.hp w S d (grow (aw st.hp ups) new) st.hp.length)->o.wp P a w K Q:=by
    intro f args hrun hc;unfold Oper.wp;rw[hrun,Oper.upon_enter];refine hc.mono fun e w' he=>?_
    cases e with
    |panicked c=>exact he.elim
    |outgrown=>exact he.elim
    |returned v=>
     obtain⟨φ',S',h2,h3,h5,h6⟩:=he;refine hK _ _ φ' S' ?_ h5 (fun id hid=>h6 id (by omega));have he:Ext φ φ':=fun id l hl _=>by
      have:id<φ.length:=by
       rcases mδ id φ.length with h|h
       ·exact h
       ·simp[lυ h]at hl
      rw[h6 id (by rw[<-rel.hr.len];exact this)];exact hl
     rw[hdst];exact rel.after hd h2 h3 he h5
   cases hic:em x.op with
   |false=>
    rw[xE hic,lE hic]at hact;exact gu (Ÿ rel.cx hq hic hmk' hact)
   |true=>
    obtain⟨c,ho,hcq⟩:=Un hq hic;obtain⟨xo,hc⟩:=GI hcq hic;have hrelc:=rel.cx;unfold nz at hcq;rw[hc]at hcq;simp only at hcq;have hgo:∀{as':List A} {ds:List D} {f:Nat} {ids:LN} {vs:Array Value},ids.Nodup->Pw (VR φ w S) ds vs.toList->nB call f ds ids (ids.map (aS st.hp)) st.hp.length=some (d,ups,new)->(eV P f->(execOp a.eval o).run P w= .ok (.enter f vs) w)->o.wp P a w K Q:=by
     intro as' ds f ids vs hnd hp1 hdc hrun;obtain⟨h1,h2⟩:=Uw hcall rel.hr rel.gr hp1 hnd hdc;rw[Array.toArray_toList]at h2;exact finc f vs (hrun h1) h2
    have hnd:∀ws,(cF st.hp bf ws []).Nodup:=fun ws=>(fc _ ws [] (by simp)).1
    split at hcq
    ·rename_i f heq;simp only[Callee.value.injEq]at heq;subst heq;split at hcq
     ·rename_i fn as' hfn has;have hargs:=cY (a:=a) rel.tmr rel.gr has;have hargs':(#[]++c.args.map a.eval++ #[]).toList=c.args.toList.map a.eval:=by simp
      split at hcq
      ·obtain⟨hx1,hx2⟩:=bu hcq;rw[<-hx1,<-hx2]at hact;simp only[sZ,dM]at hact;refine hgo (as':=as') (vs:= #[]++c.args.map a.eval++ #[]) (mI _ _ _) ?_ hact (fun hf=>qe ho hc rfl hf);rw[hargs'];cases raw f with
       |true=>exact hargs
       |false=>exact DO hargs
      ·rename_i hbody;cases hcl : (fn.name == "maps.clone" && (Extern.findNext fn).isNone) with
       |false=>
        rw[hcl,cond_false]at hcq;cases hne : (fn.name == "internal/abi.NoEscape" && (Extern.findNext fn).isNone) with
        |false=>rw[hne]at hcq;simp at hcq
        |true=>
         rw[hne,cond_true]at hcq;obtain⟨hx1,hx2⟩:=bu hcq;rw[<-hx1]at hic;cases hic
       |true=>
        rw[hcl]at hcq;simp only[cond_true]at hcq;obtain⟨hx1,hx2⟩:=bu hcq;rw[lγ,beq_iff_eq]at hcl;have hmk2:=hmk' (by rw[<-hx1];rfl);rw[<-hx1,<-hx2]at hact;simp only[sZ,dM,oX,bB]at hact;have hex:∀{v:Value} {r:Nat} {es:Array MapEntry} {clock t:Nat},c.args.map a.eval= #[.iface t (.map (some r))]->w.heap[r]?=some (.map es clock)->
          (execOp a.eval o).run P w= .ok (.value (.iface t (.map (some w.heap.size)))) (w.alloc (.map es clock)):=by
         intro v r es clock t e1 e2;rw[yc ho hc rfl,run_callFunc_extern hfn (by rw[hcl.1];rfl) (by rw[hbody];rfl) (by simpa using hcl.2) (KR hcl.1)];rw[show #[]++c.args.map a.eval++ #[]= #[.iface t (.map (some r))] by rw[e1];rfl,Q2 e2];rfl
        have hfin:∀{t r:Nat} {ks ws:LD} {es:Array MapEntry} {clock:Nat},c.args.map a.eval= #[.iface t (.map (some r))]->w.heap[r]?=some (.map es clock)->Pw (PR w S) ks (es.toList.map (·.key))->Pw (PR w S) ws (es.toList.map (·.val))->
          EffOk P o a φ w S st.hp base (.iface t (.map (base+x.k))) (grow (aw st.hp [(base+x.k,.map ks ws)]) []):=by
         intro t r ks ws es clock e1 e2 p1 p2;have hst:eO S w (w.alloc (.map es clock)):=fun b hb=>jF w _ (rel.hr.low b hb)
         obtain⟨g1,g2,g3⟩:=rel.hr.born hmk2 (.map es clock) (l:= .map w.heap.size) (ob:= .map ks ws) (fun b hb=>by simp[bM]at hb;exact hb.symm) (by
          simp only[OR];exact⟨es,clock,fb w _,p1.mono fun _ _ hh=>bl hst (fun _ h=>h) _ hh,p2.mono fun _ _ hh=>bl hst (fun _ h=>h) _ hh⟩)
         refine⟨.iface t (.map (some w.heap.size)),_,_,S,.inl (hex (v:=undef) e1 e2),?_,by simpa[grow,aw,bc]using g1,g3,by simpa[grow,aw,bc]using g2,gM⟩
         simp only[VR];exact⟨_,rfl,_,gR rel.hr hmk2,rfl⟩
        refine gu ?_;unfold TT at hact;split at hact
        ·rename_i t id heq;obtain⟨v,e1,e2⟩:=s0 rel.cx has heq;simp only[VR]at e2;obtain⟨u,rfl,r,hr1,rfl⟩:=e2;split at hact
         ·rename_i ks ws hl;simp only[lβ,lτ]at hact;obtain⟨rfl,rfl,rfl⟩:=hact;obtain⟨es,clock,g1,g2,g3⟩:=rel.hr.obj id _ _ hr1 (bC hl (by simp));exact hfin e1 g1 g2 g3
         ·rename_i ks ws hl;simp only[lβ,lτ]at hact;obtain⟨rfl,rfl,rfl⟩:=hact;obtain⟨_,es,clock,g1,g2,g3⟩:=rel.hr.obj id _ _ hr1 (bC hl (by simp));exact hfin e1 g1 g2 g3
         ·simp at hact
        ·rename_i t ks ws heq;obtain⟨v,e1,e2⟩:=s0 rel.cx has heq;simp only[VR,PR]at e2;obtain⟨u,rfl,r,es,clock,rfl,hS,g1,g2,g3⟩:=e2;simp only[lβ,lτ]at hact;obtain⟨rfl,rfl,rfl⟩:=hact;exact hfin e1 g1 (PRs_iff.1 g2) (PRs_iff.1 g3)
        ·simp at hact
     ·simp at hcq
    ·rename_i g hng heq;simp only[Callee.value.injEq]at heq;subst heq;split at hcq
     ·rename_i g' as' hg' has;obtain⟨hx1,hx2⟩:=bu hcq;have hargs:=cY (a:=a) rel.tmr rel.gr has;have hfv:=aZ (a:=a) rel.tmr rel.gr hg';rw[<-hx1,<-hx2]at hact;simp only[sZ,dM,List.map_cons]at hact;generalize ev st.tm g'=dg at*
      unfold xQ at hact;split at hact
      ·rename_i f caps args heq;simp only[lω]at heq;obtain⟨rfl,rfl⟩:=heq;simp only[VR,PR]at hfv;obtain⟨fs,cs,hfe,hk,hcs⟩:=hfv;refine hgo (as':=as') (vs:=fs++c.args.map a.eval++cs) (uG _ _) ?_ hact (fun hf=>qe ho hc hfe hf);have:(fs++c.args.map a.eval++cs).toList=fs.toList++c.args.toList.map a.eval++cs.toList:=by simp
       rw[this];exact Bv (by simpa using hk) (Pw.map_left ((PRs_iff.1 hcs).mono fun _ _ hh=>by simp only[VR];exact hh)) (DO hargs)
      ·rename_i f caps args heq;simp only[lω]at heq;obtain⟨rfl,rfl⟩:=heq;simp only[VR]at hfv;obtain⟨fs,cs,hfe,hk,hcs⟩:=hfv;refine hgo (as':=as') (vs:=fs++c.args.map a.eval++cs) (uG _ _) ?_ hact (fun hf=>qe ho hc hfe hf);have:(fs++c.args.map a.eval++cs).toList=fs.toList++c.args.toList.map a.eval++cs.toList:=by simp
       rw[this];exact Bv (by simpa using hk) (VRs_iff.1 hcs) (DO hargs)
      ·simp at hact
     ·simp at hcq
    ·rename_i hb;simp at hb
    ·rename_i hb;simp at hb
end
end
section
variable [Letters] [Mv]
def iJ (a b:List Ob):grow a b=a++b:=by cases b<;>simp[grow]
section
variable {P:Program} {G:bP} {N:Nat} {o:Oper} {a:Act} {φ:List cQ} {w:World} {S:Nat->Prop} {hp:List Ob} {tm:Tm} {st st':St} {base:Nat}
def HR.reserve (hr:HR φ w S hp)(n:Nat):HR (φ++List.replicate n .none) w S (hp++List.replicate n .unborn)/\(∀b,bm (φ++List.replicate n .none) (hp++List.replicate n .unborn) b->bm φ hp b)/\Ext φ (φ++List.replicate n .none):=by
 have hext:Ext φ (φ++List.replicate n .none):=by
  intro id l hl _;have:id<φ.length:=by
   rcases mδ id φ.length with h|h
   ·exact h
   ·simp[lυ h]at hl
  rw[lι this];exact hl
 have hat:∀{id:Nat} {l:cQ} {o:Ob},(φ++List.replicate n .none)[id]?=some l->(hp++List.replicate n .unborn)[id]?=some o->(φ[id]?=some l/\hp[id]?=some o)\/(l= .none/\o= .unborn):=by
  intro id l o h1 h2;rcases mδ id hp.length with h|h
  ·rw[lι h]at h2;rw[lι (by rw[hr.len];exact h)]at h1;exact .inl ⟨h1,h2⟩
  ·rw[lπ h]at h2;rw[lπ (by rw[hr.len];exact h)]at h1;rw[List.getElem?_replicate]at h1 h2;split at h1<;>simp at h1;split at h2<;>simp at h2;exact .inr ⟨h1.symm,h2.symm⟩
 have hown:∀b,bm (φ++List.replicate n .none) (hp++List.replicate n .unborn) b->bm φ hp b:=by
  rintro b ⟨id,l,o,h1,h2,h3⟩
  rcases hat h1 h2 with⟨g1,g2⟩|⟨rfl,rfl⟩
  ·exact⟨id,l,o,g1,g2,h3⟩
  ·simp[bM]at h3
 refine⟨⟨by simp[hr.len],?_,fun b hb=>hr.own b (hown b hb),?_,hr.low⟩,hown,hext⟩
 ·intro id l o h1 h2;rcases hat h1 h2 with⟨g1,g2⟩|⟨rfl,rfl⟩
  ·exact oD hext (fun _ _=>rfl) (fun _ h=>h) (fun _ _=>rfl) (hr.obj id l o g1 g2)
  ·simp only[OR]
 ·intro id id' l l' o o' b h1 h2 h1' h2' h3 h3';rcases hat h1 h2 with⟨g1,g2⟩|⟨rfl,rfl⟩
  ·rcases hat h1' h2' with⟨g1',g2'⟩|⟨rfl,rfl⟩
   ·exact hr.one id id' l l' o o' b g1 g2 g1' g2' h3 h3'
   ·simp[bM]at h3'
  ·simp[bM]at h3
def nm.reserve (h:nm G N a φ w S st)(n:Nat):nm G N a (φ++List.replicate n .none) w S ⟨st.tm,grow st.hp (List.replicate n .unborn)⟩ where
 tmr:=iU (h.hr.reserve n).2.2 (fun _ _=>rfl) (fun _ h=>h) h.tmr
 gr:=h.gr
 hr:=by simp only[iJ];exact(h.hr.reserve n).1
 size:=h.size
 defers:=h.defers
structure XC (P:Program)(G:bP)(raw:Nat->Bool)(N:Nat)(all:List Oper)(o:Oper)(x:eT):Prop where
 op:Ŕ P G raw o=some (x.op,x.as)
 gd:CQ all o.guard=some x.gd
 dst:x.dst=o.dst
 lt:∀t,o.dst=some t->t<N
def iX {α:Type}{b:Bool}{e:Option α}{r:α}(h:(bif b then e else none)=some r):b=true/\e=some r:=by
 grind
def CR {raw:Nat->Bool}{all:List Oper}:∀{l:List Oper} {k k':Nat} {xs:List eT},PU P G raw N all l k=some (xs,k')->Pw (XC P G raw N all) l xs
 |[],k,k',xs,h=>by
  obtain⟨rfl,rfl⟩:=h;exact Pw.nil
 |o::r,k,k',xs,h=>by
  simp only[PU]at h;split at h
  ·rename_i q as gd hq hgd;obtain⟨hd,h⟩:=iX h;split at h
   ·rename_i ys n hys;obtain⟨rfl,rfl⟩:=h;refine Pw.cons ⟨hq,hgd,rfl,fun t ht=>?_⟩ (CR hys)
    simp_all
   ·simp at h
  ·simp at h
variable {ops:Array Oper} {raw:Nat->Bool}
def rD {x:eT}(ht:Rp φ w S tm a)(hx:XC P G raw N ops.toList o x){b:Bool}(h:dN x tm=some b):Region.wanted o (yielded ops a.tmps)=b:=by
 have hg:=hx.gd;unfold dN at h;unfold Region.wanted;cases hgu:o.guard with
 |none=>
  rw[hgu]at hg;simp only[CQ,lβ]at hg;rw[<-hg]at h;simp at h;simp[h]
 |some p=>
  obtain⟨j,want⟩:=p;rw[hgu]at hg;simp only[CQ]at hg;split at hg
  ·rename_i oj hoj;split at hg
   ·rename_i dd hdd;simp only[lβ]at hg;rw[<-hg]at h;simp only at h;have hv:=ht dd;have hy:yielded ops a.tmps j=(match a.tmps[dd]? with|some (.bool b)=>some b|_=>none):=by
     unfold yielded;have:ops[j]?=some oj:=by simpa using hoj
     rw[this];simp only[Option.bind_some,hdd];rfl
    split at h
    ·rename_i b' hb';rw[hb']at hv;simp only[VR,PR]at hv;simp only[lβ]at h;subst h;have:a.tmps[dd]?=some (.bool b'):=by
      rw[Array.getD_eq_getD_getElem?]at hv;cases hc:a.tmps[dd]? with
      |none=>rw[hc]at hv;simp[undef]at hv
      |some u=>rw[hc]at hv;simp at hv;rw[hv]
     simp only[hy,this];cases b'<;>cases want<;>rfl
    ·rename_i hb';rw[hb']at hv;simp only[VR,zF]at hv;obtain⟨vs,hv,_⟩:=hv;simp only[lβ]at h;subst h;have:(match a.tmps[dd]? with|some (.bool b)=>some b|_=>none)=none:=by
      rw[Array.getD_eq_getD_getElem?]at hv;cases hc:a.tmps[dd]? with
      |none=>rfl
      |some u=>rw[hc]at hv;simp at hv;rw[hv]
     simp only[hy,this];rfl
    ·simp at h
   ·simp at hg
  ·simp at hg
def G3 {call:aG}{x:eT}{ft:eE}(h:oZ call base x st=some (st',ft)):st.hp.length<=st'.hp.length:=by
 unfold oZ at h;cases hmk:(!(ep x.op)||dw (aS st.hp (base+x.k)))with
 |false=>simp_all
 |true=>
  rw[hmk]at h;simp at h;split at h
  ·simp at h
  ·obtain⟨rfl,rfl⟩:=h;simp[iJ,bH]
def nm.skip (h:nm G N a φ w S st){d:Option Nat}(hd:Bq d a):nm G N (a.put d undef) φ w S ⟨put d (.tup []) st.tm,st.hp⟩ where
 tmr:=MV hd h.tmr (by exact⟨#[],rfl,by rfl⟩)
 gr:=h.gr
 hr:=h.hr
 size:=by have:=h.size;cases d<;>simpa[Act.put]using this
 defers:=by rw[<-h.defers];cases d<;>simp[Act.put]
def Later (G:bP)(N base:Nat)(φ:List cQ)(w:World)(S:Nat->Prop)(st st':St)(a':Act)(w':World):Prop:=
 ∃φ' S',nm G N a' φ' w' S' st'/\Fr (bm φ st.hp) S w (bm φ' st'.hp) S' w'/\(∀id,id<base->φ'[id]?=φ[id]?)/\base<=st'.hp.length
def LG {call:aG}(hcall:eK P G call){raw:Nat->Bool}{ops:Array Oper}{Q:Exit->Act->World->Prop}{stn:St}:∀{l:List Oper} {xs:List eT} {i:Nat} {st:St} {a:Act} {φ:List cQ} {w:World} {S:Nat->Prop},(∀j o,l[j]?=some o->ops[i+j]?=some o)->Pw (XC P G raw N ops.toList) l xs->kO call base xs st=some stn->
  nm G N a φ w S st->base<=st.hp.length->(∀a' w',Later G N base φ w S st stn a' w'->Q .normal a' w')->wpOps P ops Q (List.range' i l.length) a w
 |[],xs,i,st,a,φ,w,S,hl,hx,hev,rel,hb,hQ=>by
  obtain rfl:=hx.nil_inv;simp only[kO,lβ]at hev;subst hev;exact hQ a w ⟨φ,S,rel,Fr.refl _ _ _,fun _ _=>rfl,hb⟩
 |o::r,xs,i,st,a,φ,w,S,hl,hx,hev,rel,hb,hQ=>by
  obtain⟨x,xr,rfl,hx1,hx2⟩:=hx.cons_inv;have ho:ops[i]?=some o:=by simpa using hl 0 o rfl
  have hl':∀j o',r[j]?=some o'->ops[i+1+j]?=some o':=fun j o' h=>by
   have:=hl (j+1) o' (by simp_all);grind
  rw[List.length_cons,List.range'_succ];simp only[wpOps,ho];simp only[kO]at hev;split at hev
  ·grind
  ·rename_i hgd;split at hev
   ·grind
   ·rename_i st1 ft hop;rw[if_pos (by rw[rD rel.tmr hx1 hgd])];refine .inl (Ę hcall rel hx1.op hx1.dst hx1.lt hb hop fun a' w' φ' S' rel' hf hφ=>?_);refine LG hcall hl' hx2 hev rel' (qδ hb (G3 hop)) fun a2 w2 hlat=>hQ a2 w2 ?_
    obtain⟨φ2,S2,r1,r2,r3,r4⟩:=hlat;exact⟨φ2,S2,r1,hf.trans r2,fun id hid=>(r3 id hid).trans (hφ id hid),r4⟩
  ·rename_i hgd;rw[if_neg (by rw[rD rel.tmr hx1 hgd];simp)];have hd:Bq o.dst a:=fun t ht=>mψ (hx1.lt t ht) rel.size
   rw[hx1.dst]at hev;exact LG hcall hl' hx2 hev (rel.skip hd) hb hQ
def ϧ {call:aG}(hcall:eK P G call){id:Nat}{xs:List eT}{nal k:Nat}{Q:Exit->Act->World->Prop}{stn:St}{m:Nat}(hx:PU P G raw N ops.toList ops.toList 0=some (xs,k))(hev:rk call nal xs none st=some stn)(rel:nm G N a φ w S st)(hm:m<=st.hp.length)(hQ:∀a' w',Later G N m φ w S st stn a' w'->Q .normal a' w'):(Code.region id ops false).wp P Q a w:=by
 refine wp_region ?_;rw[List.range_eq_range',<-Array.length_toList];have hlen:=rel.hr.len;refine LG hcall (base:=st.hp.length) (fun j o h=>by simpa using h) (CR hx) hev (rel.reserve nal) (by simp[iJ]) fun a' w' hlat=>hQ a' w' ?_
 obtain⟨φ2,S2,r1,r2,r3,r4⟩:=hlat;refine⟨φ2,S2,r1,?_,fun id hid=>?_,qδ hm r4⟩
 ·refine Fr.trans (O1:=bm (φ++List.replicate nal .none) (grow st.hp (List.replicate nal .unborn))) (S1:=S) (w1:=w) ?_ r2;rw[iJ];exact(Fr.refl _ _ _).less (rel.hr.reserve nal).2.1
 ·rw[r3 id (by omega),lι (by omega)]
end
end
section
def C4 (a b:Int):az a b=(a==b):= @iu ⟨fun _=>0⟩ a b
def Zk (a b:LN):cM a b=(a==b):= @C7 ⟨fun _=>0⟩ a b
def Nu:∀{a b:List (Int×Int×Int)},Qg a b=true->a=b
 |[],[],_=>rfl
 |[],_::_,h=>by simp[Qg]at h
 |_::_,[],h=>by simp[Qg]at h
 |(a,l,h)::r,(b,m,i)::s,hh=>by
  simp only[Qg,lγ,C4,beq_iff_eq]at hh;obtain⟨rfl,rfl,rfl,h4⟩:=hh;rw[Nu h4]
def Zl {a b:Sy}(h:Β a b=true):a=b:=by
 cases a<;>cases b<;>simp only[Β,lγ,C4,beq_iff_eq,Bool.false_eq_true]at h
 ·rw[h.1,Nu h.2]
 ·rw[h.1,h.2]
mutual
def KK:∀(a b:Da),C2 a b=true->a=b
 | .bool a,b,h=>by cases b<;>simp_all [C2]
 | .int i a,b,h=>by cases b<;>simp_all [C2,C4]
 | .str a,b,h=>by cases b<;>simp_all [C2,Zk]
 | .agg a,b,h=>by
  cases b<;>simp only[C2,Bool.false_eq_true]at h;rw[eA _ _ h]
 | .slice z a,b,h=>by
  cases b<;>simp only[C2,Bool.false_eq_true,lγ]at h;rw[lν h.1,eA _ _ h.2]
 | .nilptr,b,h=>by cases b<;>simp_all [C2]
 | .ptr a,b,h=>by
  cases b<;>simp only[C2,Bool.false_eq_true]at h;rw[KK _ _ h]
 | .map a b,c,h=>by
  cases c<;>simp only[C2,Bool.false_eq_true,lγ]at h;rw[eA _ _ h.1,eA _ _ h.2]
 | .nilmap,b,h=>by cases b<;>simp_all [C2]
 | .fn f a,b,h=>by
  cases b<;>simp only[C2,Bool.false_eq_true,lγ]at h;rw[lν h.1,eA _ _ h.2]
 | .nilfn,b,h=>by cases b<;>simp_all [C2]
 | .iface t x,b,h=>by cases b<;>simp[C2]at h
 | .nilif,b,h=>by cases b<;>simp[C2]at h
 | .sliceE z es,b,h=>by cases b<;>simp[C2]at h
 | .sym i a,b,h=>by
  cases b<;>simp only[C2,Bool.false_eq_true,lγ,lδ]at h;rw[h.1,Zl h.2]
def eA:∀(a b:LD),lA a b=true->a=b
 |[],[],_=>rfl
 |[],_::_,h=>by simp[lA]at h
 |_::_,[],h=>by simp[lA]at h
 |x::a,y::b,h=>by
  simp only[lA,lγ]at h;rw[KK _ _ h.1,eA _ _ h.2]
end
mutual
def ž:∀(a b:D),KM a b=true->a=b
 | .p a,b,h=>by
  cases b<;>simp only[KM,Bool.false_eq_true]at h;rw[KK _ _ h]
 | .agg a,b,h=>by
  cases b<;>simp only[KM,Bool.false_eq_true]at h;rw[rh _ _ h]
 | .tup _,b,h=>by cases b<;>simp[KM]at h
 | .box i o,b,h=>by
  cases b<;>simp only[KM,Bool.false_eq_true,lγ]at h;rw[lν h.1,lν h.2]
 | .el _ _ _,b,h=>by cases b<;>simp[KM]at h
 | .ip _ _,b,h=>by cases b<;>simp[KM]at h
 | .arr i x y z,b,h=>by
  cases b<;>simp only[KM,Bool.false_eq_true,lγ]at h;rw[lν h.1,lν h.2.1,lν h.2.2.1,lν h.2.2.2]
 | .sl g z a,b,h=>by
  cases b with
  |sl g2 y b=>
   cases g<;>cases g2<;>simp only[KM,Bool.false_eq_true,lγ]at h
   ·rw[lν h.1,eA _ _ h.2]
   ·rw[lν h.1,eA _ _ h.2]
  |_=>cases g<;>simp[KM]at h
 | .map i,b,h=>by
  cases b<;>simp only[KM,Bool.false_eq_true]at h;rw[lν h]
 | .fn f a,b,h=>by
  cases b<;>simp only[KM,Bool.false_eq_true,lγ]at h;rw[lν h.1,rh _ _ h.2]
 | .iface _ _,b,h=>by cases b<;>simp[KM]at h
 | .junk,b,h=>by cases b<;>simp[KM]at h
def rh:∀(a b:List D),C3 a b=true->a=b
 |[],[],_=>rfl
 |[],_::_,h=>by simp[C3]at h
 |_::_,[],h=>by simp[C3]at h
 |x::a,y::b,h=>by
  simp only[C3,lγ]at h;rw[ž _ _ h.1,rh _ _ h.2]
end
def C5 {a b:Ob}(h:tE a b=true):a=b:=by
 cases a<;>cases b<;>simp only[tE,Bool.false_eq_true,lγ]at h
 ·rw[rh _ _ h]
 ·rw[eA _ _ h]
 ·rw[eA _ _ h]
 ·rw[eA _ _ h.1,eA _ _ h.2]
 ·rw[eA _ _ h.1,eA _ _ h.2]
 ·rw[eA _ _ h.1,rh _ _ h.2]
 ·rw[eq_of_beq h.1,eA _ _ h.2]
instance mvNone:Mv:=⟨fun _=>false,fun _=>0,fun _=>false,tE,fun _ _ h=>C5 h,fun _ h=>by cases h⟩
def ϑ (f:Nat)(ds:List D)(n:Nat):eH f ds n=n:=rfl
def ϝ (vs:List D)(hp:List Ob):pp vs hp=bB .callv vs hp:=by
 unfold pp;split<;>rfl
def We (o:O)(vs:List D)(hp:List Ob):dM o vs hp=bB o vs hp:=by
 cases o<;>first|rfl|exact ϝ vs hp
def õ (call:aG)(base:Nat)(o:O)(kk:Nat)(vs:List D)(ids:LN)(obs:List Ob)(len:Nat):sZ call base o kk vs ids obs len=oX call base o kk vs ids obs len:=by
 cases o<;>rfl
variable [Letters] [Mv]
def Qi (call:aG)(base:Nat)(x:eT)(st:St):Option (St×eE):=
 match dN x st.tm with
 |none=>none
 |some true=>oZ call base x st
 |some false=>some (⟨put x.dst (.tup []) st.tm,st.hp⟩,⟨[],[],false,0⟩)
def uC:eE:=⟨[],[],false,0⟩
def ya {call:aG}{base:Nat}:∀{xs:List eT} {st st':St} {fs fs':List eE},eR call base xs st fs=some (st',fs')->
  ∃(σ:Nat->St) (F:List eE),σ 0=st/\σ xs.length=st'/\fs'=fs.reverse++F/\F.length=xs.length/\∀(i:Nat) x,xs[i]?=some x->Qi call base x (σ i)=some (σ (i+1),F.getD i uC)
 |[],st,st',fs,fs',h=>by
  obtain⟨rfl,rfl⟩:=h;exact⟨fun _=>st,[],rfl,rfl,by simp,rfl,by simp⟩
 |x::r,st,st',fs,fs',h=>by
  simp only[eR]at h;have key:∀st1 f,Qi call base x st=some (st1,f)->eR call base r st1 (f::fs)=some (st',fs')->
    ∃(σ:Nat->St) (F:List eE),σ 0=st/\σ (x::r).length=st'/\fs'=fs.reverse++F/\F.length=(x::r).length/\∀(i:Nat) y,(x::r)[i]?=some y->Qi call base y (σ i)=some (σ (i+1),F.getD i uC):=by
   intro st1 f h1 h2;obtain⟨σ,F,g1,g2,g3,g4,g5⟩:=ya h2;refine⟨fun i=>match i with|0=>st|i+1=>σ i,f::F,rfl,g2,by simp_all,by simp[g4],fun i y hy=>?_⟩
   grind
  split at h
  ·simp at h
  ·rename_i hg;split at h
   ·simp at h
   ·rename_i st1 f hop;exact key st1 f (by simp[Qi,hg,hop]) h
  ·rename_i hg;exact key _ _ (by simp[Qi,hg]) h
def BD {i:Nat}:∀{l:LN},mY i l=true->i∈l
 |[],h=>by cases h
 |j::r,h=>by
  simp only[mY]at h;rw[beq_eq]at h;by_cases hj:j=i
  ·simp_all
  ·simp only[hj,cond_false]at h;exact mα _ (BD h)
def ui {ids:LN}{hp:List Ob}{id:Nat}:∀{ups:List (Nat×Ob)} {cur:List Ob},(id∈ids->cur[id]?=hp[id]?)->id∉gW ids hp ups->(aw cur ups)[id]?=cur[id]?
 |[],cur,_,_=>rfl
 |(i,o)::r,cur,hc,h=>by
  simp only[aw,bc];simp only[gW]at h;have step:(cur.set i o)[id]?=cur[id]?/\id∉gW ids hp r:=by
   cases hq:mY i ids&&Mv.eq (aS hp i) o
   ·simp only[hq,cond_false,mγ,not_or]at h;exact⟨by rw[mτ (fun e=>h.1 e.symm)],h.2⟩
   ·simp only[hq,cond_true]at h;refine⟨?_,h⟩;by_cases hi:i=id
    ·subst hi;rw[lγ]at hq;have he:=Mv.ok _ _ hq.2;have hcc:=hc (BD hq.1);rw[List.getElem?_set,if_pos rfl];cases hx:hp[i]? with
     |none=>
      rw[hx]at hcc;rw[hcc];rw[if_neg];intro hlt;rw[lη hlt]at hcc;cases hcc
     |some x=>
      rw[hx]at hcc;have hlt:i<cur.length:=by
       rcases mδ i cur.length with h1|h1
       ·exact h1
       ·rw[lυ h1]at hcc;cases hcc
      rw[if_pos hlt,hcc,<-he,wt hx]
    ·rw[mτ hi]
  rw[ui (fun hm=>step.1.trans (hc hm)) step.2,step.1]
def mT:∀{ups:List (Nat×Ob)} {hp hp2:List Ob} {id:Nat},hp2[id]?=hp[id]?->(aw hp2 ups)[id]?=(aw hp ups)[id]?
 |[],hp,hp2,id,h=>h
 |(i,o)::r,hp,hp2,id,h=>by
  simp only[aw,bc];refine mT ?_;grind
def wr_iff {f:eE}{id:Nat}:wr f id=true↔id∈f.ws\/(f.grow=true/\f.lim<=id):=by
 simp[wr,ble_eq]
variable {q:O} {vs:List D} {ids:LN} {obs:List Ob} {len':Nat} {ups:List (Nat×Ob)}
def M0 {call:aG}{base:Nat}{k:Nat}{len:Nat}{d:D}(h:oX call base q k vs ids obs len=some (d,ups,[])):oX call base q k vs ids obs len'=some (d,ups,[]):=by
 have key:∀{f:Nat} {args:List D},fO call f args ids obs len=some (d,ups,[])->fO call f args ids obs len'=some (d,ups,[]):=by
  intro f args h;unfold fO at h ⊢
  split at h
  ·simp at h
  ·rename_i r out hc;obtain⟨hle,h⟩:=iX h;simp only[hle,cond_true];simp at h;have hb:back ids.length len ids out.length=back ids.length len' ids out.length:=by
    funext k
    unfold back;rw[blt_eq,blt_eq];grind
   simp_all
 cases q<;>simp only[oX]at h ⊢ <;>first
  |exact h
  |grind
  |(
    unfold TR at h ⊢
    grind)
def close_congr {hp hp2:List Ob}:∀{n:Nat} {ws acc:LN},(∀id∈cF hp n ws acc,hp2[id]?=hp[id]?)->cF hp2 n ws acc=cF hp n ws acc
 |0,ws,acc,h=>by rfl
 |n+1,[],acc,h=>by rfl
 |n+1,id::ws,acc,h=>by
  simp only[cF]at h ⊢
  split
  ·rename_i hc;rw[if_pos hc]at h;exact close_congr h
  ·rename_i hc;rw[if_neg hc]at h;have hid:hp2[id]?=hp[id]?:=by
    obtain⟨r,hr⟩:=close_prefix (hp:=hp) n (hO (hp.getD id .dead)++ws) (acc++[id]);grind
   have hob:hp2.getD id .dead=hp.getD id .dead:=by simp_all
   rw[hob];exact close_congr h
where
 close_prefix {hp:List Ob}:∀(n:Nat) (ws acc:LN),acc <+: cF hp n ws acc
  |0,ws,acc=>by simp only[cF];simp
  |n+1,[],acc=>by simp only[cF];simp
  |n+1,id::ws,acc=>by
   simp only[cF];split
   ·exact close_prefix n ws acc
   ·exact(List.prefix_append _ _).trans (close_prefix n _ _)
variable {hp2:List Ob}
def mM {hp:List Ob}(h:∀id∈bB q vs hp,hp2[id]?=hp[id]?):bB q vs hp2=bB q vs hp:=by
 cases q<;>simp only[bB]at h ⊢ <;>exact close_congr h
variable {tm tm2:Tm}
def G5 {x:eT}(h:∀t∈gS x,get tm2 t=get tm t):x.as.map (ev tm2)=x.as.map (ev tm):=by
 apply List.map_congr_left;intro y hy;cases y with
 |t n=>
  refine h n ?_;simp only[gS,List.mem_filterMap];grind
 |_=>rfl
def Hd {x:eT}(h:∀t∈gS x,get tm2 t=get tm t):dN x tm2=dN x tm:=by
 unfold dN;cases hg:x.gd with
 |none=>rfl
 |some p=>
  obtain⟨g,want⟩:=p;simp;rw[h g (by simp[gS,hg])]
def V4 {hp:List Ob}(h:∀id∈ids,hp2[id]?=hp[id]?):ids.map (aS hp2)=ids.map (aS hp):=by
 apply List.map_congr_left;intro id hid;simp[aS,h id hid]
structure Did (x:eT)(st st1:St)(f:eE)(st2 st2':St):Prop where
 tm1:∀t,x.dst=some t->get st2'.tm t=get st1.tm t
 tm0:∀t,x.dst≠some t->get st2'.tm t=get st2.tm t
 hp1:∀id,wr f id=true->st2'.hp[id]?=st1.hp[id]?
 hp0:∀id,wr f id=false->st2'.hp[id]?=st2.hp[id]?
 len1:f.grow=true->st2'.hp.length=st1.hp.length
 len0:f.grow=false->st2'.hp.length=st2.hp.length
def Iz {d:Option Nat}{v:D}{t:Nat}(h:d=some t):get (put d v tm2) t=get (put d v tm) t:=by
 rw[ry,ry,if_pos h,if_pos h]
variable {d:D} {f:Nat}
def kM {call:aG}{m:Nat}{len:Nat}{args:List D}(h:jy call f args m ids obs len=some (d,ups,[])):jy call f args m ids obs len'=some (d,ups,[]):=by
 unfold jy at h ⊢
 split at h
 ·simp at h
 ·rename_i r out hc;obtain⟨hle,h⟩:=iX h;simp only[hle,cond_true];simp at h;have hb:back m len ids out.length=back m len' ids out.length:=by
   funext k
   unfold back;rw[blt_eq,blt_eq];grind
  simp_all
def qd {call:aG}{len:Nat}{args:List D}(h:fO call f args ids obs len=some (d,ups,[])):fO call f args ids obs len'=some (d,ups,[]):=by
 rw[Bp]at h ⊢
 exact kM h
def TV {call:aG}{base:Nat}{k:Nat}{len:Nat}(h:sZ call base q k vs ids obs len=some (d,ups,[])):sZ call base q k vs ids obs len'=some (d,ups,[]):=by
 cases hq:em q
 ·rw[xE hq]at h ⊢
  exact M0 h
 ·cases q<;>first
   |(simp[em]at hq;done)
   |(
     simp only[sZ,nB]at h ⊢
     revert h
     cases Mv.mv _<;>intro h
     ·exact qd h
     ·exact kM h)
   |(
     simp only[sZ,xQ]at h ⊢
     split at h
     ·unfold nB at h ⊢
      revert h
      cases Mv.mv _<;>intro h
      ·exact qd h
      ·exact kM h
     ·unfold nB at h ⊢
      revert h
      cases Mv.mv _<;>intro h
      ·exact qd h
      ·exact kM h
     ·cases h)
   |exact M0 (call:=call) (q:= .clone) (len:=len) (len':=len') h
def qu {raw:Bool}{hp:List Ob}(h:∀id∈dM (.call f raw) vs hp,hp2[id]?=hp[id]?):dM (.call f raw) vs hp2=dM (.call f raw) vs hp:=by
 simp only[dM,mH]at h ⊢
 revert h
 cases Mv.mv f<;>intro h
 ·exact close_congr h
 ·have hd:((iY (dids.didsL vs) []).flatMap fun i=>hO (aS hp2 i))=(iY (dids.didsL vs) []).flatMap fun i=>hO (aS hp i):=by
   have key:∀i∈iY (dids.didsL vs) [],aS hp2 i=aS hp i:=fun i hi=>by
    have:=h i ((close_congr.close_prefix _ _ _).subset hi);simp[aS,this]
   generalize iY (dids.didsL vs) []=l at key ⊢
   induction l with
   |nil=>rfl
   |cons a r ih=>
    simp only[List.flatMap_cons];rw[key a (lχ ..),ih fun i hi=>key i (mα _ hi)]
  rw[hd];exact close_congr h
def HT {hp:List Ob}(h:∀id∈pp vs hp,hp2[id]?=hp[id]?):pp vs hp2=pp vs hp:=by
 unfold pp at h ⊢
 split at h
 ·rename_i f caps args;revert h;cases hm:Mv.mv (zM f)<;>intro h
  ·exact mM (q:= .callv) h
  ·exact qu (f:=zM f) (raw:=false) h
 ·rename_i f caps args;revert h;cases hm:Mv.mv (zM f)<;>intro h
  ·exact mM (q:= .callv) h
  ·exact qu (f:=zM f) (raw:=false) h
 ·exact mM (q:= .callv) h
def HS {hp:List Ob}(h:∀id∈dM q vs hp,hp2[id]?=hp[id]?):dM q vs hp2=dM q vs hp:=by
 cases hq:em q
 ·rw[lE hq]at h;rw[lE hq,lE hq];exact mM h
 ·cases q<;>first
   |rfl
   |exact qu h
   |exact HT h
   |rfl
def oI {call:aG}{base:Nat}{x:eT}{st st1:St}{f:eE}(h:Qi call base x st=some (st1,f)){st2:St}(ha:∀t∈gS x,get st2.tm t=get st.tm t)(hb:∀id,id∈f.rs\/id∈f.ws->st2.hp[id]?=st.hp[id]?)(hc:f.grow=true->st2.hp.length=st.hp.length):
  ∃st2' f',Qi call base x st2=some (st2',f')/\Did x st st1 f st2 st2':=by
 unfold Qi at h ⊢
 rw[Hd ha];split at h
 ·simp at h
 ·rename_i hg;unfold oZ at h;simp only at h;obtain⟨hmk,h⟩:=iX h;split at h
  ·simp at h
  ·rename_i d ups new hact;simp only[lβ,lτ]at h;obtain⟨rfl,rfl⟩:=h;simp only at hb hc;have hids:∀id∈dM x.op (x.as.map (ev st.tm)) st.hp,st2.hp[id]?=st.hp[id]?:=fun id hid=>hb id (.inl (by cases ep x.op<;>simp[hid]))
   have hn:dM x.op (x.as.map (ev st2.tm)) st2.hp=dM x.op (x.as.map (ev st.tm)) st.hp:=by rw[G5 ha];exact HS hids
   have hmk2:(!(ep x.op)||dw (aS st2.hp (base+x.k)))=true:=by
    cases hm:ep x.op with
    |false=>rfl
    |true=>
     rw[hm]at hmk;have:aS st2.hp (base+x.k)=aS st.hp (base+x.k):=by
      simp only[aS,mξ];rw[hb (base+x.k) (.inl (by rw[hm];simp))]
     rw[this];exact hmk
   have hact2:sZ call base x.op x.k (x.as.map (ev st2.tm)) (dM x.op (x.as.map (ev st2.tm)) st2.hp) ((dM x.op (x.as.map (ev st2.tm)) st2.hp).map (aS st2.hp)) st2.hp.length=some (d,ups,new):=by
    rw[hn,G5 ha,V4 hids];cases new with
    |nil=>exact TV hact
    |cons o r=>rw[hc rfl];exact hact
   refine⟨⟨put x.dst d st2.tm,grow (aw st2.hp ups) new⟩,_,by unfold oZ;simp only[hmk2,cond_true,hact2];rfl,?_⟩
   have hle:∀hp:List Ob,(grow (aw hp ups) new).length=hp.length+new.length:=fun hp=>by simp[iJ,bH]
   have hwr:∀id,wr ⟨bif ep x.op then(base+x.k)::dM x.op (x.as.map (ev st.tm)) st.hp else dM x.op (x.as.map (ev st.tm)) st.hp,gW (dM x.op (x.as.map (ev st.tm)) st.hp) st.hp ups,!new.isEmpty,st.hp.length⟩ id=true->(grow (aw st2.hp ups) new)[id]?=(grow (aw st.hp ups) new)[id]?:=by
    intro id hw;rw[wr_iff]at hw;simp only at hw;rw[iJ,iJ];cases new with
    |nil=>
     simp only[mη];have hw':=hw.resolve_right (by simp);exact mT (hb id (.inr hw'))
    |cons o r=>
     have hl:=hc rfl;rcases mδ id st.hp.length with h1|h1
     ·have hw':=hw.resolve_right (by simp;omega);rw[lι (by rw[bH];omega),lι (by rw[bH];exact h1)];exact mT (hb id (.inr hw'))
     ·rw[lπ (by rw[bH];omega),lπ (by rw[bH];exact h1),bH,bH,hl]
   refine⟨fun t ht=>Iz ht,fun t ht=>by simp only;rw[ry,if_neg ht],hwr,fun id hw=>?_,fun hg'=>?_,fun hg'=>?_⟩
   ·have hw':¬(id∈gW (dM x.op (x.as.map (ev st.tm)) st.hp) st.hp ups\/((!new.isEmpty)=true/\st.hp.length<=id)):=fun hh=>by
     have:=wr_iff (f:=⟨bif ep x.op then(base+x.k)::dM x.op (x.as.map (ev st.tm)) st.hp else dM x.op (x.as.map (ev st.tm)) st.hp,gW (dM x.op (x.as.map (ev st.tm)) st.hp) st.hp ups,!new.isEmpty,st.hp.length⟩).2 hh
     rw[hw]at this;simp at this
    simp only[not_or]at hw';simp only[iJ];cases new with
    |nil=>rw[mη];exact ui (hids id) hw'.1
    |cons o r=>
     have hl:=hc rfl;have:id<st.hp.length:=by
      have:=hw'.2;simp at this;omega
     rw[lι (by rw[bH];omega)];exact ui (hids id) hw'.1
   ·simp only[hle];rw[hc hg']
   ·simp only[hle];have:new=[]:=by simpa using hg'
    simp[this]
 ·rename_i hg;simp only[lβ,lτ]at h;obtain⟨rfl,rfl⟩:=h;exact⟨_,_,rfl,fun t ht=>Iz ht,fun t ht=>by simp only;rw[ry,if_neg ht],by intro id hw;simp[wr]at hw,fun _ _=>rfl,by intro hh;simp at hh,fun _=>rfl⟩
def Vk {call:aG}{base:Nat}{x:eT}{st st1:St}{f:eE}(h:Qi call base x st=some (st1,f))(hh:fj x.op=false):f.rs=[]/\f.ws=[]/\f.grow=false:=by
 unfold Qi at h;split at h
 ·simp at h
 ·unfold oZ at h;simp only at h;obtain⟨hmk,h⟩:=iX h;split at h
  ·simp at h
  ·rename_i d ups new hact;simp only[lβ,lτ]at h;obtain⟨rfl,rfl⟩:=h;have hnc:em x.op=false:=by
    cases hq:x.op<;>rw[hq]at hh<;>simp[fj]at hh<;>rfl
   rw[xE hnc]at hact;have hval:∀{e:D},val e=some (d,ups,new)->ups=[]/\new=[]:=fun he=>(kX he).2
   have hvalP:∀{e:Option Da},kf e=some (d,ups,new)->ups=[]/\new=[]:=fun he=>by obtain⟨_,_,_,h1,h2⟩:=Ji he;exact⟨h1,h2⟩
   have key:ups=[]/\new=[]:=by
    clear hnc;generalize dM x.op (x.as.map (ev st.tm)) st.hp=ids0 at hact;generalize x.as.map (ev st.tm)=vs at hact;generalize x.op=q at hact hh;cases q<;>simp only[fj,reduceCtorEq,Bool.true_eq_false]at hh;all_goals simp only[oX]at hact
    all_goals first
     |(simp at hact;done)
     |(unfold d_ at hact)
     |(unfold Bb at hact)
     |(unfold pX at hact)
     |(unfold pY at hact;simp only[cond_eq_ite]at hact)
     |(unfold CG at hact)
     |(unfold TM at hact)
     |(unfold TN at hact)
     |(unfold Ba at hact)
     |(unfold aUn at hact)
     |(unfold MW at hact)
     |(unfold MY at hact)
     |(unfold Gv at hact)
     |(unfold Gu at hact)
     |(unfold Kp at hact;simp only[cond_eq_ite]at hact)
     |(unfold mz at hact)
     |(unfold MZ at hact)
     |(unfold PJ at hact;simp only[cond_eq_ite]at hact)
     |(unfold hD at hact;rw[qγ]at hh;obtain⟨rfl,hh⟩:=hh;simp only[hh,Bool.false_and,cond_eq_ite,Bool.false_eq_true,if_false]at hact)
     |(unfold Ŀ at hact)
     |(unfold Gq at hact)
     |(unfold MX at hact;simp only[cond_eq_ite]at hact)
     |(unfold Gr at hact;simp only[cond_eq_ite]at hact)
     |(unfold X8 at hact)
     |(unfold Ko at hact)
     |(unfold TS at hact)
     |(unfold Gt at hact)
     |(unfold Gs at hact)
     |(unfold nw at hact;simp only[cond_eq_ite]at hact)
     |(unfold TU at hact)
     |(unfold x_ at hact)
     |(unfold pZ at hact;simp only[cond_eq_ite]at hact)
     |skip
    all_goals (repeat' split at hact)
    all_goals first
     |(simp at hact;done)
     |exact hval hact
     |exact hvalP hact
   obtain⟨rfl,rfl⟩:=key;have hm:ep x.op=false:=by
    cases hq:x.op<;>rw[hq]at hh<;>simp[fj]at hh<;>rfl
   have hn:dM x.op (x.as.map (ev st.tm)) st.hp=[]:=by
    rw[lE hnc];clear hnc;cases hq:x.op<;>rw[hq]at hh<;>simp only[fj,reduceCtorEq,Bool.true_eq_false]at hh<;>first
     |rfl
     |(simp only[bB,hh,cond_false])
   rw[hm,hn];exact⟨rfl,rfl,rfl⟩
 ·simp only[lβ,lτ]at h;obtain⟨_,rfl⟩:=h;exact⟨rfl,rfl,rfl⟩
end
section
variable [Letters] [Mv]
def lI (o:Oper):LN:=(o.after.toList.filter mC).map (·.on)
def re:∀{l:List Oper} {n:Nat},iq l n=true->∀(j:Nat) o,l[j]?=some o->∀d∈lI o,d<n+j
 |[],n,h,j,o,ho,d,hd=>by grind
 |x::r,n,h,j,o,ho,d,hd=>by
  simp only[iq,lγ,mζ]at h;cases j with
  |zero=>
   simp at ho;subst ho;simp only[lI,List.mem_map,List.mem_filter]at hd;obtain⟨e,⟨he,hb⟩,rfl⟩:=hd;have:=h.1 e he;simp_all
  |succ j=>
   have:=re h.2 j o (by simp_all) d hd;omega
def M4:∀(l:List Oper) (acc:List LN),∃r,zH l acc=acc++r/\r.length=l.length/\
  ∀(j:Nat) o,l[j]?=some o->∀x∈(zH l acc).getD (acc.length+j) [],x∈lI o\/∃d∈lI o,d<acc.length+j/\x∈(zH l acc).getD d []
 |[],acc=>⟨[],by simp[zH],rfl,by simp⟩
 |o::r,acc=>by
  simp only[zH];obtain⟨q,h1,h2,h3⟩:=M4 r (acc++[(((o.after.toList.filter mC).map (·.on))++((o.after.toList.filter mC).map (·.on)).flatMap fun d=>acc.getD d []).eraseDups]);refine⟨_::q,by rw[h1];simp;rfl,by simp[h2],fun j o' ho x hx=>?_⟩
  cases j with
  |zero=>
   simp at ho;subst ho;rw[h1]at hx;simp only[Nat.add_zero,mξ,lρ,lπ (Nat.le_refl _),Nat.sub_self,List.singleton_append,List.getElem?_cons_zero,Option.getD_some,List.mem_eraseDups,qε,List.mem_flatMap]at hx;rcases hx with hx|⟨d,hd,hx⟩
   ·exact .inl hx
   ·have hlt:d<acc.length:=by
     grind
    refine .inr ⟨d,hd,by omega,?_⟩
    grind
  |succ j=>
   have:=h3 j o' (by simp_all) x (by
    grind)
   grind
def yO {xs:List eT}{an:LN}{x:eT}{n:Nat}:∀{l:LN} {ps:List (Nat×Nat)},ww xs an x n l=some ps->∀i∈l,i∈an\/∃y,xs[i]?=some y/\sE y x=true/\((fj y.op&&fj x.op)=true->(i,n)∈ps)
 |[],ps,h,i,hi=>by grind
 |k::r,ps,h,i,hi=>by
  simp only[ww]at h;split at h
  ·simp at h
  ·rename_i qs hqs;have ih:=yO hqs;grind
def uH {xs:List eT}{an:List LN}:∀{l:LN} {ps:List (Nat×Nat)},lG xs an l=some ps->∀n∈l,∃x a,xs[n]?=some x/\an[n]?=some a/\∀i,i<n->i∈a\/∃y,xs[i]?=some y/\sE y x=true/\((fj y.op&&fj x.op)=true->(i,n)∈ps)
 |[],ps,h,n,hn=>by grind
 |k::r,ps,h,n,hn=>by
  simp only[lG]at h;split at h
  ·rename_i x a hx ha;split at h
   ·rename_i p1 p2 h1 h2;simp at h;subst h;rcases mγ.1 hn with rfl|hn
    ·refine⟨x,a,hx,ha,fun i hi=>?_⟩
     rcases yO h1 i (by simp_all)with h|⟨y,g1,g2,g3⟩;all_goals simp_all
    ·obtain⟨x',a',g1,g2,g3⟩:=uH h2 n hn;grind
   ·simp at h
  ·simp at h
def ux {fs:List eE}:∀{ps:List (Nat×Nat)},fA fs ps=true->∀i j,(i,j)∈ps->kJ (fs.getD i uC) (fs.getD j uC)=true
 |[],h,i,j,hm=>by grind
 |(p,q)::r,h,i,j,hm=>by
  simp only[fA]at h;split at h
  ·rw[lγ]at h;rcases mγ.1 hm with he|hm
   ·simp_all
   ·exact ux h.2 i j hm
  ·simp at h
structure Rx (x y:eT)(f g:eE):Prop where
 t1:∀d,x.dst=some d->d∉gS y
 t2:∀d,x.dst=some d->y.dst≠some d
 t3:∀d,y.dst=some d->d∉gS x
 r1:∀id,id∈g.rs\/id∈g.ws->wr f id=false
 r2:∀id,id∈f.rs\/id∈f.ws->wr g id=false
 gg:¬(f.grow=true/\g.grow=true)
def Mk {x y:eT}(h:sE x y=true):(∀d,x.dst=some d->d∉gS y)/\(∀d,x.dst=some d->y.dst≠some d)/\(∀d,y.dst=some d->d∉gS x):=by
 unfold sE at h;rw[lγ]at h;refine⟨fun d hd=>?_,fun d hd=>?_,fun d hd=>?_⟩
 ·simp_all
 ·have:=h.1;rw[hd]at this;intro he;simp_all
 all_goals simp_all
def T0 {f g:eE}(h:kJ f g=true):(∀id,id∈g.rs\/id∈g.ws->wr f id=false)/\(∀id,id∈f.rs\/id∈f.ws->wr g id=false)/\¬(f.grow=true/\g.grow=true):=by
 unfold kJ at h;grind
structure pT (call:aG)(base:Nat)(ops:List Oper)(xs:List eT)(an:List LN)(σ:Nat->St)(F:Nat->eE):Prop where
 len:ops.length=xs.length
 step:∀(i:Nat) x,xs[i]?=some x->Qi call base x (σ i)=some (σ (i+1),F i)
 back:∀(j:Nat) o,ops[j]?=some o->∀d∈lI o,d<j
 anc:∀(j:Nat) o,ops[j]?=some o->∀x∈an.getD j [],x∈lI o\/∃d∈lI o,d<j/\x∈an.getD d []
 pair:∀(i j:Nat) x y,i<j->xs[i]?=some x->xs[j]?=some y->i∈an.getD j []\/Rx x y (F i) (F j)
variable {st:St}
def Ò {call:aG}{base:Nat}{ops:List Oper}{xs:List eT}{ps:List (Nat×Nat)}{st':St}{fs:List eE}(hl:ops.length=xs.length)(hb:iq ops 0=true)(hp:lG xs (zH ops []) (List.range xs.length)=some ps)(hev:eR call base xs st []=some (st',fs))(ha:fA fs ps=true):
  ∃σ F,σ 0=st/\σ xs.length=st'/\pT call base ops xs (zH ops []) σ F:=by
 obtain⟨σ,fl,h1,h2,h3,h4,h5⟩:=ya hev;subst h3;refine⟨σ,fun i=>fs.getD i uC,h1,h2,hl,h5,fun j o ho d hd=>by have:=re hb j o ho d hd;omega,?_,?_⟩
 ·obtain⟨r,g1,g2,g3⟩:=M4 ops [];simp_all
 ·intro i j x y hij hx hy;have hj:j<xs.length:=by
   grind
  obtain⟨y',a,q1,q2,q3⟩:=uH hp j (by simp_all);rw[hy]at q1;simp at q1;subst q1;rcases q3 i hij with h|⟨x',p1,p2,p3⟩
  ·simp_all
  ·rw[hx]at p1;simp at p1;subst p1;obtain⟨t1,t2,t3⟩:=Mk p2;right;cases hh:(fj x.op&&fj y.op)with
   |true=>
    obtain⟨r1,r2,gg⟩:=T0 (ux ha i j (p3 hh));exact⟨t1,t2,t3,r1,r2,gg⟩
   |false=>
    have idle:∀{k:Nat} {z:eT},xs[k]?=some z->fj z.op=false->(fs.getD k uC).rs=[]/\(fs.getD k uC).ws=[]/\(fs.getD k uC).grow=false:=fun hz hh=>Vk (h5 _ _ hz) hh
    rw[Bool.and_eq_false_iff]at hh;rcases hh with hh|hh
    ·obtain⟨a1,a2,a3⟩:=idle hx hh;exact⟨t1,t2,t3,fun id _=>by simp only[wr,a2,a3];simp,fun id hid=>by simp_all,fun hg=>by simp_all⟩
    ·obtain⟨a1,a2,a3⟩:=idle hy hh;exact⟨t1,t2,t3,fun id hid=>by simp_all,fun id _=>by simp only[wr,a2,a3];simp,fun hg=>by simp_all⟩
section
variable {call:aG} {base:Nat} {ops:List Oper} {xs:List eT} {an:List LN} {σ:Nat->St} {F:Nat->eE}
def wrT (xs:List eT)(j t:Nat):Prop:=∃x,xs[j]?=some x/\x.dst=some t
def wrH (xs:List eT)(F:Nat->eE)(j id:Nat):Prop:=j<xs.length/\wr (F j) id=true
def wrL (xs:List eT)(F:Nat->eE)(j:Nat):Prop:=j<xs.length/\(F j).grow=true
def pT.stillT (p:pT call base ops xs an σ F){t:Nat}{m:Nat}:∀(k:Nat),m+k<=xs.length->(∀j,m<=j->j<m+k->¬wrT xs j t)->get (σ (m+k)).tm t=get (σ m).tm t
 |0,_,_=>rfl
 |k+1,hle,h=>by
  rw[<-p.stillT k (by omega) fun j h1 h2=>h j h1 (by omega)];have hx:xs[m+k]?=some xs[m+k]:=lη (by omega);obtain⟨st2',f',h1,h2⟩:=oI (p.step _ _ hx) (st2:=σ (m+k)) (fun _ _=>rfl) (fun _ _=>rfl) (fun _=>rfl);rw[p.step _ _ hx]at h1;simp only[lβ,lτ]at h1;obtain⟨rfl,rfl⟩:=h1;exact h2.tm0 t fun e=>h (m+k) (by omega) (by omega) ⟨_,hx,e⟩
def pT.stillH (p:pT call base ops xs an σ F){id:Nat}{m:Nat}:∀(k:Nat),m+k<=xs.length->(∀j,m<=j->j<m+k->¬wrH xs F j id)->(σ (m+k)).hp[id]?=(σ m).hp[id]?
 |0,_,_=>rfl
 |k+1,hle,h=>by
  rw[<-p.stillH k (by omega) fun j h1 h2=>h j h1 (by omega)];have hx:xs[m+k]?=some xs[m+k]:=lη (by omega);obtain⟨st2',f',h1,h2⟩:=oI (p.step _ _ hx) (st2:=σ (m+k)) (fun _ _=>rfl) (fun _ _=>rfl) (fun _=>rfl);rw[p.step _ _ hx]at h1;obtain⟨rfl,rfl⟩:=h1;refine h2.hp0 id ?_;cases hw:wr (F (m+k)) id with
  |false=>rfl
  |true=>exact absurd ⟨by omega,hw⟩ (h (m+k) (by omega) (by omega))
def pT.stillL (p:pT call base ops xs an σ F){m:Nat}:∀(k:Nat),m+k<=xs.length->(∀j,m<=j->j<m+k->¬wrL xs F j)->(σ (m+k)).hp.length=(σ m).hp.length
 |0,_,_=>rfl
 |k+1,hle,h=>by
  rw[<-p.stillL k (by omega) fun j h1 h2=>h j h1 (by omega)];have hx:xs[m+k]?=some xs[m+k]:=lη (by omega);obtain⟨st2',f',h1,h2⟩:=oI (p.step _ _ hx) (st2:=σ (m+k)) (fun _ _=>rfl) (fun _ _=>rfl) (fun _=>rfl);rw[p.step _ _ hx]at h1;obtain⟨rfl,rfl⟩:=h1;refine h2.len0 ?_;cases hw:(F (m+k)).grow with
  |false=>rfl
  |true=>exact absurd ⟨by omega,hw⟩ (h (m+k) (by omega) (by omega))
structure ò (xs:List eT)(σ:Nat->St)(F:Nat->eE)(X:Nat->Prop)(st:St):Prop where
 T:∀m,m<=xs.length->∀t,(∀j,j<m->wrT xs j t->X j)->(∀j,m<=j->wrT xs j t->¬X j)->get st.tm t=get (σ m).tm t
 H:∀m,m<=xs.length->∀id,(∀j,j<m->wrH xs F j id->X j)->(∀j,m<=j->wrH xs F j id->¬X j)->st.hp[id]?=(σ m).hp[id]?
 L:∀m,m<=xs.length->(∀j,j<m->wrL xs F j->X j)->(∀j,m<=j->wrL xs F j->¬X j)->st.hp.length=(σ m).hp.length
def pT.start (p:pT call base ops xs an σ F):ò xs σ F (fun _=>False) (σ 0) where
 T m hm t h1 _:=by
  have:=p.stillT (m:=0) (t:=t) m (by omega) (fun j _ hj=>fun hw=>h1 j (by omega) hw);simp_all
 H m hm id h1 _:=by
  have:=p.stillH (m:=0) (id:=id) m (by omega) (fun j _ hj=>fun hw=>h1 j (by omega) hw);simp_all
 L m hm h1 _:=by
  have:=p.stillL (m:=0) m (by omega) (fun j _ hj=>fun hw=>h1 j (by omega) hw);simp_all
def Xd (ops:List Oper)(X:Nat->Prop):Prop:=∀(j:Nat) o,ops[j]?=some o->X j->∀d∈lI o,X d
def pT.anc_in (p:pT call base ops xs an σ F){X:Nat->Prop}(hd:Xd ops X):∀(j:Nat),(∀o,ops[j]?=some o->∀d∈lI o,X d)->j<ops.length->∀x∈an.getD j [],X x:=by
 intro j;induction j using Nat.strongRecOn with
 |_ j ih=>
  intro hj hlt x hx;have ho:ops[j]?=some ops[j]:=lη hlt;rcases p.anc j _ ho x hx with h|⟨d,hd1,hd2,hx⟩
  ·simp_all
  ·exact ih d hd2 (fun o' ho'=>hd d o' ho' (hj _ ho d hd1)) (by omega) x hx
def pT.more (p:pT call base ops xs an σ F){X:Nat->Prop}(hd:Xd ops X)(inv:ò xs σ F X st){i:Nat}{x:eT}(hx:xs[i]?=some x)(hni:¬X i)(hr:∀o,ops[i]?=some o->∀d∈lI o,X d):
  ∃st' f',Qi call base x st=some (st',f')/\ò xs σ F (fun j=>X j\/j=i) st':=by
 have hlt:i<xs.length:=by
  rcases mδ i xs.length with h|h
  ·exact h
  ·simp[lυ h]at hx
 have hanc:∀k∈an.getD i [],X k:=p.anc_in hd i hr (by rw[p.len];exact hlt)
 -- what was run and is not kJ from i comes ahead of it
 have before:∀j y,j<i->xs[j]?=some y->X j\/Rx y x (F j) (F i):=fun j y hj hy=>(p.pair j i y x hj hy hx).imp_left (hanc j)
 have behind:∀j y,i<j->xs[j]?=some y->X j->Rx x y (F i) (F j):=fun j y hj hy hX=>(p.pair i j x y hj hx hy).resolve_left fun h=>
  hni (p.anc_in hd j (fun o ho=>hd j o ho hX) (by
   rw[p.len];rcases mδ j xs.length with h|h
   ·exact h
   ·simp[lυ h]at hy) i h)
 have getx:∀j,j<xs.length->xs[j]?=some (xs.getD j x):=fun j hj=>by rw[mξ,lη hj];rfl
 obtain⟨st',f',h1,h2⟩:=oI (p.step i x hx) (st2:=st)
  (fun t ht=>inv.T i (by omega) t
   (fun j hj ⟨y,hy,hdt⟩=>(before j y hj hy).resolve_right fun ap=>ap.t1 t hdt ht)
   (fun j hj ⟨y,hy,hdt⟩ hX=>by
    rcases Nat.eq_or_lt_of_le hj with rfl|hj
    ·exact hni hX
    ·exact(behind j y hj hy hX).t3 t hdt ht))
  (fun id hid=>inv.H i (by omega) id
   (fun j hj ⟨hl,hw⟩=>(before j _ hj (getx j hl)).resolve_right fun ap=>by have:=ap.r1 id hid;rw[hw]at this;simp at this)
   (fun j hj ⟨hl,hw⟩ hX=>by
    rcases Nat.eq_or_lt_of_le hj with rfl|hj
    ·exact hni hX
    ·have:=(behind j _ hj (getx j hl) hX).r2 id hid;rw[hw]at this;simp at this))
  (fun hg=>inv.L i (by omega)
   (fun j hj ⟨hl,hw⟩=>(before j _ hj (getx j hl)).resolve_right fun ap=>ap.gg ⟨hw,hg⟩)
   (fun j hj ⟨hl,hw⟩ hX=>by
    rcases Nat.eq_or_lt_of_le hj with rfl|hj
    ·exact hni hX
    ·exact(behind j _ hj (getx j hl) hX).gg ⟨hg,hw⟩))
 refine⟨st',f',h1,⟨fun m hm t k1 k2=>?_,fun m hm id k1 k2=>?_,fun m hm k1 k2=>?_⟩⟩
 ·by_cases hdt:x.dst=some t
  ·have him:i<m:=by
    rcases mδ i m with h|h
    ·exact h
    ·exact absurd (.inr rfl) (k2 i h ⟨x,hx,hdt⟩)
   rw[h2.tm1 t hdt];have:=p.stillT (t:=t) (m:=i+1) (m - (i+1)) (by omega) (fun j hj1 hj2=>fun⟨y,hy,hyt⟩=>by
    have hX:=(k1 j (by omega) ⟨y,hy,hyt⟩).resolve_right (by omega);exact(behind j y (by omega) hy hX).t2 t hdt hyt)
   rw[show i+1+(m - (i+1))=m by omega]at this;exact this.symm
  ·rw[h2.tm0 t hdt];have hne:∀j,wrT xs j t->j≠i:=by
    rintro j ⟨y,hy,hyt⟩ rfl
    rw[hx]at hy;simp at hy;subst hy;exact hdt hyt
   exact inv.T m hm t (fun j hj hw=>(k1 j hj hw).resolve_right (hne j hw)) (fun j hj hw hX=>k2 j hj hw (.inl hX))
 ·cases hwi:wr (F i) id with
  |true=>
   have him:i<m:=by
    rcases mδ i m with h|h
    ·exact h
    ·exact absurd (.inr rfl) (k2 i h ⟨hlt,hwi⟩)
   rw[h2.hp1 id hwi];have:=p.stillH (id:=id) (m:=i+1) (m - (i+1)) (by omega) (fun j hj1 hj2=>fun⟨hl,hw⟩=>by
    have hX:=(k1 j (by omega) ⟨hl,hw⟩).resolve_right (by omega);have ap:=behind j _ (by omega) (getx j hl) hX;rw[wr_iff]at hwi hw;rcases hwi with h|⟨hg,hlim⟩
    ·have:=ap.r2 id (.inr h);rw[wr_iff.2 hw]at this;simp at this
    ·rcases hw with h|⟨hg',_⟩
     ·have:=ap.r1 id (.inr h);have hh:wr (F i) id=true:=wr_iff.2 (.inr ⟨hg,hlim⟩);rw[hh]at this;simp at this
     ·exact ap.gg ⟨hg,hg'⟩)
   rw[show i+1+(m - (i+1))=m by omega]at this;exact this.symm
  |false=>
   rw[h2.hp0 id hwi];have hne:∀j,wrH xs F j id->j≠i:=by
    rintro j ⟨hl,hw⟩ rfl
    rw[hwi]at hw;simp at hw
   exact inv.H m hm id (fun j hj hw=>(k1 j hj hw).resolve_right (hne j hw)) (fun j hj hw hX=>k2 j hj hw (.inl hX))
 ·cases hwi:(F i).grow with
  |true=>
   have him:i<m:=by
    rcases mδ i m with h|h
    ·exact h
    ·exact absurd (.inr rfl) (k2 i h ⟨hlt,hwi⟩)
   rw[h2.len1 hwi];have:=p.stillL (m:=i+1) (m - (i+1)) (by omega) (fun j hj1 hj2=>fun⟨hl,hw⟩=>by
    have hX:=(k1 j (by omega) ⟨hl,hw⟩).resolve_right (by omega);exact(behind j _ (by omega) (getx j hl) hX).gg ⟨hwi,hw⟩)
   rw[show i+1+(m - (i+1))=m by omega]at this;exact this.symm
  |false=>
   rw[h2.len0 hwi];have hne:∀j,wrL xs F j->j≠i:=by
    rintro j ⟨hl,hw⟩ rfl
    rw[hwi]at hw;simp at hw
   exact inv.L m hm (fun j hj hw=>(k1 j hj hw).resolve_right (hne j hw)) (fun j hj hw hX=>k2 j hj hw (.inl hX))
def ò.all {X:Nat->Prop}(inv:ò xs σ F X st)(h:∀j,j<xs.length->X j):(∀t,get st.tm t=get (σ xs.length).tm t)/\st.hp=(σ xs.length).hp:=by
 refine⟨fun t=>inv.T _ (Nat.le_refl _) t (fun j hj _=>h j hj) (fun j hj ⟨y,hy,_⟩=>by rw[lυ hj]at hy;simp at hy),?_⟩
 apply List.ext_getElem?;intro id;exact inv.H _ (Nat.le_refl _) id (fun j hj _=>h j hj) (fun j hj ⟨hl,_⟩=>absurd hj (by omega))
end
end
section
variable [Letters] [Mv]
def c6 (listed:Array Bool)(j:Nat):Prop:=listed[j]?=some true
section
variable {P:Program} {G:bP} {N:Nat} {call:aG} {base:Nat} {ops:Array Oper} {xs:List eT} {an:List LN} {σ:Nat->St} {F:Nat->eE}
variable {listed:Array Bool}
def yX (hs:listed.size=ops.size){i:Nat}:i∈Region.ready .any ops listed↔i<ops.size/\listed[i]?=some false/\∀o,ops[i]?=some o->∀d∈lI o,c6 listed d:=by
 unfold Region.ready;rw[List.mem_filter];have hget:∀{j:Nat},listed.getD j false=true↔c6 listed j:=by
  intro j;unfold c6;rw[Array.getD_eq_getD_getElem?];grind
 constructor
 ·rintro⟨h1,h2⟩
  have hi:i<ops.size:=by simp_all
  rw[lγ]at h2;obtain⟨h3,h4⟩:=h2;refine⟨hi,?_,?_⟩
  ·simp_all
  ·intro o ho d hd;rw[ho]at h4;simp only[lI,List.mem_map,List.mem_filter]at hd;obtain⟨e,⟨he,hb⟩,rfl⟩:=hd;have h5:=Array.all_eq_true'.1 h4 e (by simp_all);have:mC e=Region.binds .any e:=rfl;simp_all
 ·rintro⟨hi,hl,h⟩
  refine⟨by simp_all,?_⟩
  rw[lγ];refine⟨by simp_all,?_⟩
  have ho:ops[i]?=some ops[i]:=Array.getElem?_eq_getElem hi;rw[ho];simp only[Option.map_some,Option.getD_some];rw[Array.all_eq_true'];intro e he;cases hb:mC e with
  |false=>
   have:Region.binds .any e=false:=hb;grind
  |true=>
   have:=h _ ho e.on (by
    simp only[lI,List.mem_filter];grind)
   simp_all
def B0 (p:pT call base ops.toList xs an σ F)(hs:listed.size=ops.size)(h:Region.ready .any ops listed=[]):∀j,j<xs.length->c6 listed j:=by
 intro j;induction j using Nat.strongRecOn with
 |_ j ih=>
  intro hj;have hjo:j<ops.size:=by have:=p.len;simp_all
  cases hc:listed[j]with
  |true=>unfold c6;grind
  |false=>
   have:j∈Region.ready .any ops listed:=(yX hs).2 ⟨hjo,by grind,fun o ho d hd=>by
    have:=p.back j o (by simp_all) d hd;grind⟩
   simp_all
def P3 {l:List Bool}:∀{i:Nat},l[i]?=some false->(l.set i true).count false+1=l.count false:=by
 grind
variable {raw:Nat->Bool} {Q:Exit->Act->World->Prop}
def Ņ (hcall:eK P G call)(p:pT call base ops.toList xs an σ F)(hx:Pw (XC P G raw N ops.toList) ops.toList xs):∀(fuel:Nat) (listed:Array Bool) (st:St) (a:Act) (φ:List cQ) (w:World) (S:Nat->Prop),listed.size=ops.size->listed.toList.count false<=fuel->
  Xd ops.toList (c6 listed)->ò xs σ F (c6 listed) st->nm G N a φ w S st->base<=st.hp.length->
  (∀a' w' φ' S',nm G N a' φ' w' S' (σ xs.length)->Fr (bm φ st.hp) S w (bm φ' (σ xs.length).hp) S' w'->(∀id,id<base->φ'[id]?=φ[id]?)->base<=(σ xs.length).hp.length->Q .normal a' w')->
  wpAny P .any ops Q fuel listed a w:=by
 have gu:∀(listed:Array Bool) (st:St) (a:Act) (φ:List cQ) (w:World) (S:Nat->Prop),ò xs σ F (c6 listed) st->nm G N a φ w S st->base<=st.hp.length->
   (∀a' w' φ' S',nm G N a' φ' w' S' (σ xs.length)->Fr (bm φ st.hp) S w (bm φ' (σ xs.length).hp) S' w'->(∀id,id<base->φ'[id]?=φ[id]?)->base<=(σ xs.length).hp.length->Q .normal a' w')->
   (∀j,j<xs.length->c6 listed j)->Q .normal a w:=by
  intro listed st a φ w S inv rel hb hQ hall;obtain⟨h1,h2⟩:=inv.all hall;refine hQ a w φ S ⟨fun t=>by rw[<-h1 t];exact rel.tmr t,rel.gr,by rw[<-h2];exact rel.hr,rel.size,rel.defers⟩ ?_ (fun _ _=>rfl) (by rw[<-h2];exact hb)
  rw[<-h2];exact Fr.refl _ _ _
 intro fuel;induction fuel with
 |zero=>
  intro listed st a φ w S hs hc hd inv rel hb hQ;simp only[wpAny];have hno:∀j:Nat,listed[j]?≠some false:=by
   intro j hj;have hm:false∈listed.toList:=mθ (by simpa using hj);have:=List.count_pos_iff.2 hm;omega
  have hnil:Region.ready .any ops listed=[]:=by
   cases hr:Region.ready .any ops listed with
   |nil=>rfl
   |cons i r=>
    have:i∈Region.ready .any ops listed:=by rw[hr];simp
    exact absurd ((yX hs).1 this).2.1 (hno i)
  exact⟨hnil,gu listed st a φ w S inv rel hb hQ (B0 p hs hnil)⟩
 |succ fuel ih=>
  intro listed st a φ w S hs hc hd inv rel hb hQ;simp only[wpAny];refine⟨fun hnil=>gu listed st a φ w S inv rel hb hQ (B0 p hs hnil),fun i hi=>?_⟩
  obtain⟨hio,hlf,hpr⟩:=(yX hs).1 hi;have ho:ops.toList[i]?=some ops[i]:=by simp[hio]
  obtain⟨x,hxi,hox⟩:=hx.get ho;have hni:¬c6 listed i:=by unfold c6;rw[hlf];simp
  obtain⟨st',f',hev,inv'⟩:=p.more hd inv hxi hni (fun o ho' d hd'=>hpr o (by simpa using ho') d hd');have hli:i<listed.size:=by omega
  have hX:∀j,c6 (listed.setIfInBounds i true) j↔(c6 listed j\/j=i):=by
   intro j;unfold c6;rw[Array.getElem?_setIfInBounds];by_cases hij:i=j
   ·subst hij;simp[hli]
   ·simp[hij];intro e;exact absurd e.symm hij
  have hs':(listed.setIfInBounds i true).size=ops.size:=by simpa using hs
  have hc':(listed.setIfInBounds i true).toList.count false<=fuel:=by
   have:=P3 (l:=listed.toList) (i:=i) (by simpa using hlf);simp only[Array.toList_setIfInBounds];omega
  have hd':Xd ops.toList (c6 (listed.setIfInBounds i true)):=by
   intro j o hj hXj d hdp;rw[hX]at hXj ⊢
   rcases hXj with h|rfl
   ·exact .inl (hd j o hj h d hdp)
   ·exact .inl (hpr o (by simpa using hj) d hdp)
  have hinv':ò xs σ F (c6 (listed.setIfInBounds i true)) st':=by
   have:c6 (listed.setIfInBounds i true)=fun j=>c6 listed j\/j=i:=by funext j;exact propext (hX j)
   rw[this];exact inv'
  have hop:ops[i]?=some ops[i]:=Array.getElem?_eq_getElem hio;simp only[wpOp,hop];unfold Qi at hev;split at hev
  ·simp at hev
  ·rename_i hgd;rw[if_pos (by rw[rD rel.tmr hox hgd])];refine .inl (Ę hcall rel hox.op hox.dst hox.lt hb hev fun a' w' φ' S' rel' hf hφ=>?_);refine ih _ st' a' φ' w' S' hs' hc' hd' hinv' rel' (qδ hb (G3 hev)) fun a2 w2 φ2 S2 r1 r2 r3 r4=>hQ a2 w2 φ2 S2 r1 (hf.trans r2) (fun id hid=>(r3 id hid).trans (hφ id hid)) r4
  ·rename_i hgd;rw[if_neg (by rw[rD rel.tmr hox hgd];simp)];have hdo:Bq (ops[i]).dst a:=fun t ht=>mψ (hox.lt t ht) rel.size
   simp only[lβ,lτ]at hev;obtain⟨rfl,rfl⟩:=hev;rw[hox.dst]at hinv';exact ih _ _ _ φ w S hs' hc' hd' hinv' (rel.skip hdo) hb hQ
variable {a:Act} {φ:List cQ} {w:World} {S:Nat->Prop} {st:St}
def nm.drawn (h:nm G N a φ w S st)(n:Nat):nm G N a φ {w with drawn:=n} S st:=by
 have hst:eO S w {w with drawn:=n}:=fun _ _=>rfl
 exact⟨iU (Ext.refl φ) hst (fun _ h=>h) h.tmr,vO hst (fun _ h=>h) h.gr,⟨h.hr.len,fun id l o h1 h2=>oD (Ext.refl φ) hst (fun _ h=>h) (fun _ _=>rfl) (h.hr.obj id l o h1 h2),h.hr.own,h.hr.one,h.hr.low⟩,h.size,h.defers⟩
def L6 (hcall:eK P G call)(hm:P.follows .mixedOrders=true){id:Nat}{nal k:Nat}{ps:List (Nat×Nat)}{stn:St}{m:Nat}(hx:PU P G raw N ops.toList ops.toList 0=some (xs,k))(hed:iq ops.toList 0=true)(hps:lG xs (zH ops.toList []) (List.range xs.length)=some ps)(hev:rk call nal xs (some ps) st=some stn)(rel:nm G N a φ w S st)(hmm:m<=st.hp.length)(hQ:∀a' w',Later G N m φ w S st stn a' w'->Q .normal a' w'):(Code.region id ops true).wp P Q a w:=by
 have hpw:=CR hx;simp only[rk]at hev;split at hev
 ·rename_i st2 fs hseq;obtain⟨hap,hev⟩:=iX hev;simp only[lβ]at hev;subst hev;obtain⟨σ,F,hσ0,hσn,plan⟩:=Ò hpw.1 hed hps hseq hap;have hlen:=rel.hr.len;have hres:=rel.hr.reserve nal;refine wp_region_any hm (Ņ hcall plan hpw ops.size _ (σ 0) a (φ++List.replicate nal .none) _ S (by simp) (by simp) (fun j o hj hX=>?_) ?_ (by rw[hσ0];exact(rel.reserve nal).drawn _) (by rw[hσ0];simp[iJ]) fun a' w' φ' S' r1 r2 r3 r4=>hQ a' w' ?_)
  ·simp[c6]at hX;rw[Array.getElem?_replicate]at hX;split at hX<;>simp at hX
  ·have:c6 (Array.replicate ops.size false)=fun _=>False:=by
    funext j
    unfold c6;rw[Array.getElem?_replicate];split<;>simp
   rw[this];exact plan.start
  ·rw[hσn]at r1 r2 r4;rw[hσ0]at r2;refine⟨φ',S',r1,?_,fun id hid=>by rw[r3 id (by omega),lι (by omega)],qδ hmm r4⟩
   refine Fr.trans (O1:=bm (φ++List.replicate nal .none) (grow st.hp (List.replicate nal .unborn))) (S1:=S) (w1:={w with drawn:=w.drawn+1}) ?_ r2;rw[iJ];exact⟨fun _ _ _=>rfl,Nat.le_refl _,rfl,rfl,rfl,fun _ h=>h,fun _ h=> .inl h,fun b hb=> .inl (hres.2.1 b hb)⟩
 ·simp at hev
end
end
section
variable [Letters] [Mv]
section
variable {P:Program} {G:bP} {N m:Nat} {call:aG} {a:Act} {φ:List cQ} {w:World} {S:Nat->Prop} {st st':St} {hp:List Ob}
def Later.refl (rel:nm G N a φ w S st)(hm:m<=st.hp.length):Later G N m φ w S st st a w:=⟨φ,S,rel,Fr.refl _ _ _,fun _ _=>rfl,hm⟩
variable {z:Nat}
def Kt {cs:List D}{k i lo len:Nat}(h:b3 (cs.set k (.arr i lo len z))=true):b3 cs=true:=by
 unfold b3 at h ⊢
 rw[List.length_set]at h;rw[lγ]at h ⊢
 refine⟨h.1,?_⟩;have h2:=h.2;cases cs with
 |nil=>exact h2
 |cons d r=>
  cases k with
  |zero=>exact absurd h2 (by simp[pH])
  |succ k=>cases d<;>first|rfl|(rename_i x;cases x<;>exact h2)
def HR.push (hr:HR φ w S hp){l:cQ}{o:Ob}(hob:OR (φ++[l]) w S l o)(hown:∀b,bM l o≠some b):HR (φ++[l]) w S (hp++[o])/\(∀b,bm (φ++[l]) (hp++[o]) b->bm φ hp b)/\Ext φ (φ++[l]):=by
 have hext:Ext φ (φ++[l]):=by
  intro id x hl _;have:id<φ.length:=by
   rcases mδ id φ.length with h|h
   ·exact h
   ·simp[lυ h]at hl
  rw[lι this];exact hl
 have hat:∀{id:Nat} {x:cQ} {y:Ob},(φ++[l])[id]?=some x->(hp++[o])[id]?=some y->(φ[id]?=some x/\hp[id]?=some y)\/(x=l/\y=o):=by
  intro id x y h1 h2;rcases mδ id hp.length with h|h
  ·rw[lι h]at h2;rw[lι (by rw[hr.len];exact h)]at h1;exact .inl ⟨h1,h2⟩
  ·rw[lπ h]at h2;rw[lπ (by rw[hr.len];exact h),hr.len]at h1;cases hk:id - hp.length with
   |zero=>rw[hk]at h1 h2;simp at h1 h2;exact .inr ⟨h1.symm,h2.symm⟩
   |succ n=>rw[hk]at h1;simp at h1
 have hown':∀b,bm (φ++[l]) (hp++[o]) b->bm φ hp b:=by
  rintro b ⟨id,x,y,h1,h2,h3⟩
  rcases hat h1 h2 with⟨g1,g2⟩|⟨rfl,rfl⟩
  ·exact⟨id,x,y,g1,g2,h3⟩
  ·exact absurd h3 (hown b)
 refine⟨⟨by simp[hr.len],?_,fun b hb=>hr.own b (hown' b hb),?_,hr.low⟩,hown',hext⟩
 ·intro id x y h1 h2;rcases hat h1 h2 with⟨g1,g2⟩|⟨rfl,rfl⟩
  ·exact oD hext (fun _ _=>rfl) (fun _ h=>h) (fun _ _=>rfl) (hr.obj id x y g1 g2)
  ·exact hob
 ·intro id id' x x' y y' b h1 h2 h1' h2' h3 h3';rcases hat h1 h2 with⟨g1,g2⟩|⟨rfl,rfl⟩
  ·rcases hat h1' h2' with⟨g1',g2'⟩|⟨rfl,rfl⟩
   ·exact hr.one id id' x x' y y' b g1 g2 g1' g2' h3 h3'
   ·exact absurd h3' (hown b)
  ·exact absurd h3 (hown b)
def N3 {d:D}{v:Value}(h:VR φ w S d v)(ho:QS d=true):∃ad,v= .slice ad 0 0:=by
 unfold QS at ho;split at ho
 ·obtain⟨ad,cap,us,rfl,h1,h2,_⟩:=h;simp only[gt]at h2;simp_all
 ·obtain⟨ad,cap,us,rfl,h1,h2,h3,_⟩:=h;subst h3;simp only[gt]at h2;simp_all
 ·grind
def Gn {ad:Option Addr}{id:Nat}(h:φ[id]?=some (.arr 0 0 0 z 0)):VR φ w S (.arr id 0 0 z) (.slice ad 0 0):=by
 simp only[VR];grind
def yU (hr:HR φ w S hp)(z:Nat):HR (φ++[.arr 0 0 0 z 0]) w S (hp++[.arr []])/\(∀b,bm (φ++[.arr 0 0 0 z 0]) (hp++[.arr []]) b->bm φ hp b)/\Ext φ (φ++[.arr 0 0 0 z 0]):=
 hr.push (by
  exact⟨rfl,Nat.le_refl _,fun h=>absurd h (Nat.lt_irrefl 0),[],Pw.nil,by intro i u hu;grind⟩) (by simp[bM])
def xA {tm:Tm}{s:Nat}{d:D}(h:Rp φ w S tm a)(hd:VR φ w S d (a.tmps.getD s undef)):Rp φ w S (.cons s d tm) a:=by
 intro t;simp only[get];rw[beq_eq];by_cases hs:s=t
 ·simp_all
 ·simp only[hs,cond_false];exact h t
def Qv (rel:nm G N a φ w S st)(hm:m<=st.hp.length){n:Nat}{ws:LN}(live:LN):Later G N m φ w S st ⟨fD live (mapD (idx (cF st.hp n ws (List.range m)))) st.tm,cb (cF st.hp n ws (List.range m)) st.hp⟩ a w:=by
 have hnd:=(fc (hp:=st.hp) n ws (List.range m) List.nodup_range).1;have hlen:=rel.hr.len;refine⟨jl (cF st.hp n ws (List.range m)) φ,S,⟨fun t=>?_,rel.gr,rel.hr.shrink hnd,rel.size,rel.defers⟩,(Fr.refl _ _ _).less fun b hb=>NJ rel.hr _ hb,fun id hid=>BG (by omega) hid,?_⟩
 ·rw[yl];split
  ·exact xB (oO _ φ) _ (rel.tmr t)
  ·simp only[VR]
 ·obtain⟨r,hr⟩:=(fc (hp:=st.hp) n ws (List.range m) List.nodup_range).2;simp only[cb,lα];grind
def KZ (rel:nm G N a φ w S st)(s off:Nat):∃v,VR φ w S (j_ st s off) v:=by
 unfold j_;cases Nat.ble 1000 off
 ·exact⟨_,rel.tmr s⟩
 ·simp only[cond_true];split
  ·rename_i id o hs;have hvs:=rel.tmr s;rw[hs]at hvs;obtain⟨b,hb,_⟩:=hvs;split
   ·rename_i cs hcs;have hob:=dH hcs (by simp);obtain⟨vs0,t0,fz0,e1,e2,e3,e4,_⟩:=rel.hr.obj id _ _ hb hob;cases hd:cs[o]? with
    |none=>
     refine⟨undef,?_⟩;rw[mξ,hd];simp only[Option.getD_none,VR]
    |some d=>
     obtain⟨v,hv1,hv2⟩:=e3.get hd;grind
   ·exact⟨undef,by simp only[VR]⟩
  ·exact⟨undef,by simp only[VR]⟩
def zo (rel:nm G N a φ w S st)(hm:m<=st.hp.length){i b o cap n:Nat}{o0 o1:Ob}(hi:φ[i]?=some (.arr b o cap z n))(ho:aS st.hp i=o0)(hd:o0≠ .dead)(hor:OR φ w S (.arr b o cap z n) o0->OR φ w S (.arr b o cap z n) o1)(hown:bM (.arr b o cap z n) o1=bM (.arr b o cap z n) o0):Later G N m φ w S st ⟨st.tm,jm st.hp i o1⟩ a w:=by
 have hob:=dH ho hd;have hphi:φ.set i (.arr b o cap z n)=φ:=ej hi;obtain⟨k1,k2,k3⟩:=rel.hr.one_step (S':=S) (w':=w) (l':= .arr b o cap z n) (o':=o1) hi hob (fun _=>rfl) (fun _ _ _=>rfl) (Nat.le_refl _) rfl rfl rfl (fun _ h=>h) (fun _ h=> .inl h) rel.hr.low (by
  rw[hphi];exact hor (rel.hr.obj i _ _ hi hob)) (by
  intro b' hb';rw[hown]at hb';have h:=rel.hr.own b' ⟨i,_,_,hi,hob,hb'⟩;exact⟨.inl hb',h.2,h.1⟩)
 rw[hphi]at k1 k2;exact⟨φ,S,⟨rel.tmr,rel.gr,by rw[bc];exact k1,rel.size,rel.defers⟩,by rw[bc];exact k2,fun _ _=>rfl,by rw[bc,List.length_set];exact hm⟩
def HR.moved (hr:HR φ w S hp){i:Nat}{l:cQ}{o:Ob}(hi:φ[i]?=some l)(ho:hp[i]?=some o):HR (φ++[l]) w S (hp.set i .dead++[o])/\(∀b,bm (φ++[l]) (hp.set i .dead++[o]) b->bm φ hp b)/\Ext φ (φ++[l]):=by
 have hdead:∀(l:cQ) b,bM l .dead≠some b:=fun l b=>by cases l<;>simp[bM]
 have hext:Ext φ (φ++[l]):=by
  intro id x hl _;have:id<φ.length:=by
   rcases mδ id φ.length with h|h
   ·exact h
   ·simp[lυ h]at hl
  rw[lι this];exact hl
 have hat:∀{id:Nat} {x:cQ} {y:Ob},(φ++[l])[id]?=some x->(hp.set i .dead++[o])[id]?=some y->y= .dead\/∃j,φ[j]?=some x/\hp[j]?=some y/\id=if j=i then hp.length else j:=by
  intro id x y h1 h2;rcases mδ id hp.length with h|h
  ·rw[lι (by rw[List.length_set];exact h),List.getElem?_set]at h2;rw[lι (by rw[hr.len];exact h)]at h1;by_cases he:i=id
   ·rw[if_pos he,if_pos (by omega)]at h2;exact .inl (by cases h2;rfl)
   ·rw[if_neg he]at h2;exact .inr ⟨id,h1,h2,by rw[if_neg (fun h=>he h.symm)]⟩
  ·rw[lπ (by rw[List.length_set];exact h),List.length_set]at h2;rw[lπ (by rw[hr.len];exact h),hr.len]at h1;cases hk:id - hp.length with
   |zero=>
    rw[hk]at h1 h2;simp at h1 h2;subst h1 h2;exact .inr ⟨i,hi,ho,by rw[if_pos rfl];omega⟩
   |succ n=>rw[hk]at h1;simp at h1
 have hown':∀b,bm (φ++[l]) (hp.set i .dead++[o]) b->bm φ hp b:=by
  rintro b ⟨id,x,y,h1,h2,h3⟩
  rcases hat h1 h2 with rfl|⟨j,g1,g2,-⟩
  ·exact absurd h3 (hdead _ _)
  ·exact⟨j,x,y,g1,g2,h3⟩
 refine⟨⟨by simp[hr.len],?_,fun b hb=>hr.own b (hown' b hb),?_,hr.low⟩,hown',hext⟩
 ·intro id x y h1 h2;rcases hat h1 h2 with rfl|⟨j,g1,g2,-⟩
  ·cases x<;>simp only[OR]
  ·exact oD hext (fun _ _=>rfl) (fun _ h=>h) (fun _ _=>rfl) (hr.obj j x y g1 g2)
 ·intro id id' x x' y y' b h1 h2 h1' h2' h3 h3';rcases hat h1 h2 with rfl|⟨j,g1,g2,e⟩
  ·exact absurd h3 (hdead _ _)
  ·rcases hat h1' h2' with rfl|⟨j',g1',g2',e'⟩
   ·exact absurd h3' (hdead _ _)
   ·have:=hr.one j j' x x' y y' b g1 g2 g1' g2' h3 h3';subst this;rw[e,e']
def Wa {s:Nat}(h:mvA s st=some st')(rel:nm G N a φ w S st)(hm:m<=st.hp.length):Later G N m φ w S st st' a w:=by
 have hlen:=rel.hr.len;unfold mvA at h;split at h
 ·rename_i i o n z hs;split at h
  ·rename_i es ho;simp only[lβ]at h;subst h;have hv:=rel.tmr s;rw[hs]at hv;simp only[VR]at hv;obtain⟨b2,o2,cap,k,ad,hi,hrest⟩:=hv;have hob:=dH ho (by simp);obtain⟨h1,h2,h3⟩:=rel.hr.moved hi hob;refine⟨φ++[.arr b2 o2 cap z k],S,⟨xA (iU h3 (fun _ _=>rfl) (fun _ h=>h) rel.tmr) ?_,rel.gr,by rw[bc];exact h1,rel.size,rel.defers⟩,by rw[bc];exact(Fr.refl _ _ _).less h2,fun id hid=>lι (by omega),by simp[bc];omega⟩
   simp only[VR];exact⟨b2,o2,cap,k,ad,by rw[<-hlen];simp,hrest⟩
  ·simp at h
 ·simp at h
def Dk {g:Gh}(h:eF m g st=some st')(rel:nm G N a φ w S st)(hm:m<=st.hp.length):Later G N m φ w S st st' a w:=by
 have hlen:=rel.hr.len;cases g with
 |own s z=>
  simp only[eF]at h;cases hc:QS (get st.tm s)with
  |false=>
   rw[hc]at h;cases hz:Nat.ble 1000 z with
   |false=>rw[hz]at h;simp at h;subst h;exact Later.refl rel hm
   |true=>rw[hz]at h;exact Wa h rel hm
  |true=>
   rw[hc]at h;simp only[cond_true,lβ]at h;subst h;obtain⟨h1,h2,h3⟩:=yU rel.hr z;obtain⟨ad,hv⟩:=N3 (rel.tmr s) hc;refine⟨φ++[.arr 0 0 0 z 0],S,⟨xA (iU h3 (fun _ _=>rfl) (fun _ h=>h) rel.tmr) ?_,rel.gr,h1,rel.size,rel.defers⟩,(Fr.refl _ _ _).less h2,fun id hid=>lι (by omega),by simp;omega⟩
   rw[hv];exact Gn (by rw[<-hlen];simp)
 |ownc s off z=>
  simp only[eF]at h;split at h
  ·rename_i id o hs;split at h
   ·rename_i cs hcs;split at h
    ·rename_i d hd;cases hc:QS d with
     |false=>rw[hc]at h;simp at h;subst h;exact Later.refl rel hm
     |true=>
      rw[hc]at h;simp only[cond_true,lβ]at h;subst h;obtain⟨h1,h2,h3⟩:=yU rel.hr z;have hob:=dH hcs (by simp);obtain⟨v0,hvs⟩:=KZ rel s off;rw[hs]at hvs;simp only[VR]at hvs;obtain⟨b,hb,_⟩:=hvs;have hidl:id<st.hp.length:=by
       rcases mδ id st.hp.length with h|h
       ·exact h
       ·simp[lυ h]at hob
      have hob1:(st.hp++[Ob.arr []])[id]?=some (.box cs):=by rw[lι hidl];exact hob
      have hb1:(φ++[cQ.arr 0 0 0 z 0])[id]?=some (.box b):=by rw[lι (by omega)];exact hb
      obtain⟨vs,t,fz,g1,g2,g3,g4,g5⟩:=h1.obj id _ _ hb1 hob1;obtain⟨v,hv1,hv2⟩:=g3.get hd;obtain⟨ad,hv⟩:=N3 hv2 hc;have hphi:(φ++[cQ.arr 0 0 0 z 0]).set id (.box b)=φ++[cQ.arr 0 0 0 z 0]:=ej hb1;have hnew:(φ++[cQ.arr 0 0 0 z 0])[st.hp.length]?=some (.arr 0 0 0 z 0):=by rw[<-hlen];simp
      have hown:=h1.own b ⟨id,_,_,hb1,hob1,rfl⟩;obtain⟨k1,k2,k3⟩:=h1.one_step (S':=S) (w':=w) (l':= .box b) (o':= .box (cs.set (o+KY off) (.arr st.hp.length 0 0 z))) hb1 hob1 (fun _=>rfl) (fun _ _ _=>rfl) (Nat.le_refl _) rfl rfl rfl (fun _ h=>h) (fun _ h=> .inl h) h1.low (by
       rw[hphi];simp only[OR];refine⟨vs,t,fz,g1,g2,?_,g4,fun hh=>g5 (Kt hh)⟩
       have:=g3.set (o+KY off) (x:= .arr st.hp.length 0 0 z) (v:=v) (by rw[hv];exact Gn hnew);rwa [ej hv1]at this) (by
       intro b' hb';simp only[bM,lβ]at hb';subst hb';exact⟨.inl rfl,hown.2,hown.1⟩)
      rw[hphi]at k1 k2;have he:jm st.hp id (.box (cs.set (o+KY off) (.arr st.hp.length 0 0 z)))++[Ob.arr []]=(st.hp++[Ob.arr []]).set id (.box (cs.set (o+KY off) (.arr st.hp.length 0 0 z))):=by
       rw[bc,List.set_append_left _ _ hidl]
      refine⟨φ++[.arr 0 0 0 z 0],S,⟨iU h3 (fun _ _=>rfl) (fun _ h=>h) rel.tmr,rel.gr,by rw[he];exact k1,rel.size,rel.defers⟩,?_,fun id hid=>lι (by omega),by simp[bc];omega⟩
      rw[he];exact Fr.trans ((Fr.refl _ _ _).less h2) k2
    ·simp at h
   ·simp at h
  ·simp at h
 |frz s=>
  simp only[eF]at h;split at h
  ·rename_i x hx;simp only[lβ]at h;subst h;have hz:((dids (get st.tm s)).map fun i=>(i,aS st.hp i))=(dids (get st.tm s)).zip ((dids (get st.tm s)).map (aS st.hp)):=(sJ (aS st.hp) _).symm;rw[hz]at hx ⊢
   obtain⟨h1,h2⟩:=rel.hr.freeze (dids (get st.tm s));have hv:=mQ rel.hr (S':=FX φ S st.hp (dids (get st.tm s))) (fun _ h=> .inl h) ni _ hx (rel.tmr s);refine⟨φ,_,⟨xA (iU (Ext.refl φ) (fun _ _=>rfl) (fun _ h=> .inl h) rel.tmr) (by simp only[VR];exact hv),vO (fun _ _=>rfl) (fun _ h=> .inl h) rel.gr,h1,rel.size,rel.defers⟩,h2,fun _ _=>rfl,by rw[bH];exact hm⟩
  ·simp at h
 |frzc s off=>
  simp only[eF]at h;split at h
  ·rename_i id o hs;split at h
   ·rename_i cs hcs;split at h
    ·rename_i d hd;cases hc:(dids d).contains id with
     |true=>rw[hc]at h;simp at h
     |false=>
      rw[hc]at h;simp only[cond_false]at h;split at h
      ·rename_i x hx;cases hbt:(b3 (cs.set (o+KY off) (.p x))&&!b3 cs)with
       |true=>rw[hbt]at h;simp at h
       |false=>
       simp only[hbt,cond_false,lβ]at h;subst h;have hb3:b3 (cs.set (o+KY off) (.p x))=true->b3 cs=true:=fun hh=>by rw[hh]at hbt;simpa using hbt
       have hni:id∉dids d:=by simpa using hc
       have hz:((dids d).map fun i=>(i,aS st.hp i))=(dids d).zip ((dids d).map (aS st.hp)):=(sJ (aS st.hp) _).symm;rw[hz]at hx ⊢
       obtain⟨h1,h2⟩:=rel.hr.freeze (dids d);have hob:=dH hcs (by simp);obtain⟨v0,hvs⟩:=KZ rel s off;rw[hs]at hvs;simp only[VR]at hvs;obtain⟨b,hb,_⟩:=hvs;obtain⟨vs0,t0,fz0,e1,e2,e3,e4,_⟩:=rel.hr.obj id _ _ hb hob;obtain⟨v,hv1,hv2⟩:=e3.get hd;have hv:=mQ rel.hr (S':=FX φ S st.hp (dids d)) (fun _ h=> .inl h) ni _ hx hv2;have hob1:(aw st.hp (dU ((dids d).zip ((dids d).map (aS st.hp)))))[id]?=some (.box cs):=by
        rw[yk,fE,if_neg (fun h=>hni h.1)];exact hob
       obtain⟨vs,t,fz,g1,g2,g3,g4,g5⟩:=h1.obj id _ _ hb hob1;have hvv:vs=vs0:=by
        rw[e1]at g1;simp at g1;exact g1.1.symm
       subst hvv;have hphi:φ.set id (.box b)=φ:=ej hb;have hown:=h1.own b ⟨id,_,_,hb,hob1,rfl⟩;obtain⟨k1,k2,k3⟩:=h1.one_step (S':=FX φ S st.hp (dids d)) (w':=w) (l':= .box b) (o':= .box (cs.set (o+KY off) (.p x))) hb hob1 (fun _=>rfl) (fun _ _ _=>rfl) (Nat.le_refl _) rfl rfl rfl (fun _ h=>h) (fun _ h=> .inl h) h1.low (by
        rw[hphi];simp only[OR];refine⟨vs,t,fz,g1,g2,?_,g4,fun hh=>g5 (hb3 hh)⟩
        have:=g3.set (o+KY off) (x:= .p x) (v:=v) (by simp only[VR];exact hv);rwa [ej hv1]at this) (by
        intro b' hb';simp only[bM,lβ]at hb';subst hb';exact⟨.inl rfl,hown.2,hown.1⟩)
       rw[hphi]at k1 k2;refine⟨φ,FX φ S st.hp (dids d),⟨iU (Ext.refl φ) (fun _ _=>rfl) (fun _ h=> .inl h) rel.tmr,vO (fun _ _=>rfl) (fun _ h=> .inl h) rel.gr,by rw[bc];exact k1,rel.size,rel.defers⟩,?_,fun _ _=>rfl,by rw[bc,List.length_set,bH];exact hm⟩
       rw[bc];exact Fr.trans h2 k2
      ·simp at h
    ·simp at h
   ·simp at h
  ·simp at h
 |tog s off=>
  simp only[eF]at h;split at h
  ·rename_i id o hs;split at h
   ·rename_i cs hcs;split at h
    ·rename_i i lo len z hd;have hob:=dH hcs (by simp);obtain⟨v0,hvs⟩:=KZ rel s off;rw[hs]at hvs;simp only[VR]at hvs;obtain⟨b,hb,_⟩:=hvs;obtain⟨vs,t,fz,g1,g2,g3,g4,g5⟩:=rel.hr.obj id _ _ hb hob;obtain⟨v,hv1,hv2⟩:=g3.get hd;simp only[VR]at hv2;obtain⟨b2,o2,cap,n,ad,hi,_⟩:=hv2;split at h
     ·rename_i es ho;simp only[lβ]at h;subst h;exact zo rel hm hi ho (by simp) (fun hh=>by simpa only[OR]using hh) rfl
     ·rename_i es ho;simp only[lβ]at h;subst h;exact zo rel hm hi ho (by simp) (fun hh=>by simpa only[OR]using hh) rfl
     ·rename_i c es ho;cases c with
      |true=>simp at h
      |false=>
       simp only[cond_false,lβ]at h;subst h;exact zo rel hm hi ho (by simp) (fun hh=>by simpa only[OR]using hh) rfl
     ·simp at h
    ·simp at h
   ·simp at h
  ·simp at h
 |pst s off=>
  simp only[eF,lβ]at h;subst h;exact Later.refl rel hm
 |pfz s off=>
  simp only[eF,lβ]at h;subst h;exact Later.refl rel hm
 |pkp live=>
  simp only[eF,lβ]at h;subst h;exact Later.refl rel hm
 |keep live=>
  simp only[eF,lβ]at h;subst h;exact Qv rel hm live
def Later.bind {φ1:List cQ}{S1:Nat->Prop}{w1:World}{st1 st2:St}{a2:Act}{w2:World}(hf:Fr (bm φ st.hp) S w (bm φ1 st1.hp) S1 w1)(hφ:∀id,id<m->φ1[id]?=φ[id]?)(h:Later G N m φ1 w1 S1 st1 st2 a2 w2):Later G N m φ w S st st2 a2 w2:=by
 obtain⟨φ2,S2,r1,r2,r3,r4⟩:=h;exact⟨φ2,S2,r1,hf.trans r2,fun id hid=>(r3 id hid).trans (hφ id hid),r4⟩
def zx (ex:Ex):Exit->Prop
 | .normal=>ex= .norm
 | .exit i=>ex= .exit i
 | .ret=>ex= .ret
 |_=>False
def Post (G:bP)(N m:Nat)(φ:List cQ)(w:World)(S:Nat->Prop)(st:St)(r:Ex×St)(e:Exit)(a':Act)(w':World):Prop:=zx r.1 e/\Later G N m φ w S st r.2 a' w'
def Post.bind {φ1:List cQ}{S1:Nat->Prop}{w1:World}{st1:St}{r:Ex×St}{e:Exit}{a2:Act}{w2:World}(hf:Fr (bm φ st.hp) S w (bm φ1 st1.hp) S1 w1)(hφ:∀id,id<m->φ1[id]?=φ[id]?)(h:Post G N m φ1 w1 S1 st1 r e a2 w2):Post G N m φ w S st r e a2 w2:=
 ⟨h.1,h.2.bind hf hφ⟩
def EI {c:Code}{Q:Exit->Act->World->Prop}(I:Nat->Act->World->Prop)(zero:∀a w,¬I 0 a w)(round:∀n a w,I (n+1) a w->c.wp P (Exit.then (I n) Q) a w){n:Nat}(h₀:I n a w):(Code.loop c).wp P Q a w:=by
 intro b k cs;have key:∀n a w,I n a w->∃e a' w',Q e a' w'/\Arrives P (lone (b.at a (.code c:: .inLoop c::k)) cs w) b k cs e a' w':=by
  intro n;induction n with
  |zero=>simp_all
  |succ n ih=>
   intro a w hI;obtain⟨e,a₁,w₁,hq,harr⟩:=round n a w hI b (.inLoop c::k) cs;cases e with
   |normal=>
    obtain⟨e₂,a₂,w₂,hq₂,harr₂⟩:=ih a₁ w₁ hq;exact⟨e₂,a₂,w₂,hq₂,.of_steps (Steps.trans harr (.one step_inLoop)) harr₂⟩
   |exit id=>exact⟨_,a₁,w₁,hq,.pass (x:= .inLoop c) rfl (fun _ _=> .inl (by simp)) harr⟩
   |goto l=>exact⟨_,a₁,w₁,hq,.pass (x:= .inLoop c) rfl (fun _ _=> .inl (by simp)) harr⟩
   |ret=>exact⟨_,a₁,w₁,hq,.pass (x:= .inLoop c) rfl (fun _ _=> .inl (by simp)) harr⟩
   |panic ch=>exact⟨_,a₁,w₁,hq,.pass (x:= .inLoop c) rfl (fun _ _=> .inl (by simp)) harr⟩
   |outgrown=>exact⟨_,a₁,w₁,hq,.pass (x:= .inLoop c) rfl (fun _ _=> .inl (by simp)) harr⟩
 obtain⟨e,a',w',hq,harr⟩:=key n a w h₀;exact⟨e,a',w',hq,.of_steps (.one step_loop) harr⟩
end
end
section
variable [Letters] [Mv]
section
variable {P:Program} {G:bP} {raw:Nat->Bool} {N m:Nat} {call:aG} {a:Act} {φ:List cQ} {w:World} {S:Nat->Prop} {st st':St} {hp:List Ob}
def Cf (P:Program)(G:bP)(raw:Nat->Bool)(N:Nat)(c:Code):Co->Prop
 | .skip=>c= .skip
 | .reg nal xs ps _=>(∃id ops draw,c= .region id ops draw/\Ky P G raw N ops.toList draw=some (.reg nal xs ps []))\/(nal=0/\xs=[⟨none,.pan,[],0,none⟩]/\ps=none)
 | .seq x y=>∃a b,c= .seq a b/\CP P G raw N a=some x/\CP P G raw N b=some y
 | .cond z x y=>∃o a b,c= .cond o a b/\cA P G 0 o=some z/\CP P G raw N a=some x/\CP P G raw N b=some y
 | .block id x=>∃a,c= .block id a/\CP P G raw N a=some x
 | .loop _ x=>∃a,c= .loop a/\CP P G raw N a=some x
 | .exit id=>c= .exit id
 | .ret=>c= .ret
 | .gh _ _=>False
def nA {c:Code}{k:Co}(h:CP P G raw N c=some k):Cf P G raw N c k:=by
 cases c<;>simp only[CP]at h;case skip=>simp at h;subst h;rfl
 case region id ops draw=>
  have h0:=h;unfold Ky at h;split at h
  ·simp at h
  ·cases draw with
   |false=>
    simp at h;subst h;exact .inl ⟨id,ops,false,rfl,h0⟩
   |true=>
    obtain⟨_,h⟩:=iX h;split at h
    ·simp at h;subst h;exact .inl ⟨id,ops,true,rfl,h0⟩
    ·simp at h
 case seq a b=>
  split at h
  ·rename_i x y hx hy;simp at h;subst h;exact⟨a,b,rfl,hx,hy⟩
  ·simp at h
 case cond o a b=>
  split at h
  ·rename_i z x y hz hx hy;simp at h;subst h;exact⟨o,a,b,rfl,hz,hx,hy⟩
  ·simp at h
 case block id b=>
  split at h
  ·rename_i x hx;simp at h;subst h;exact⟨b,rfl,hx⟩
  ·simp at h
 case loop b=>
  split at h
  ·rename_i x hx;simp at h;subst h;exact⟨b,rfl,hx⟩
  ·simp at h
 case exit id=>simp at h;subst h;rfl
 case ret=>simp at h;subst h;rfl
 case refuse y=>simp at h;subst h;exact .inr ⟨rfl,rfl,rfl⟩
 all_goals simp at h
def K_ (hcall:eK P G call)(hm:P.follows .mixedOrders=true){fuel:Nat}:∀(k:Co) {c:Code} {st:St} {r:Ex×St} {a:Act} {φ:List cQ} {w:World} {S:Nat->Prop},CP P G raw N c=some (er k)->ce call fuel m k st=some r->nm G N a φ w S st->m<=st.hp.length->c.wp P (Post G N m φ w S st r) a w:=by
 intro k;induction k with
 |skip=>
  intro c st r a φ w S hc hev rel hmm;have:=nA hc;simp only[er,Cf]at this;subst this;simp only[ce,lβ]at hev;subst hev;exact wp_skip ⟨rfl,Later.refl rel hmm⟩
 |reg nal xs ps out=>
  intro c st r a φ w S hc hev rel hmm;have:=nA hc;simp only[er,Cf]at this;have this:∃id ops draw,c= .region id ops draw/\Ky P G raw N ops.toList draw=some (.reg nal xs ps []):=by
   rcases this with h|⟨rfl,rfl,rfl⟩
   ·exact h
   ·simp only[ce]at hev;have:rk call 0 [⟨none,.pan,[],0,none⟩] none st=none:=rfl;rw[this]at hev;cases hev
  obtain⟨rid,ops,draw,rfl,hreg⟩:=this;simp only[ce]at hev;split at hev
  ·rename_i st1 hst1;simp only[lβ]at hev;subst hev;have gu:∀a' w',Later G N m φ w S st st1 a' w'->Post G N m φ w S st (.norm,⟨fD out id st1.tm,st1.hp⟩) .normal a' w':=by
    rintro a' w' ⟨φ',S',r1,r2,r3,r4⟩
    refine⟨rfl,φ',S',⟨fun t=>?_,r1.gr,r1.hr,r1.size,r1.defers⟩,r2,r3,r4⟩
    simp only[yl];split
    ·exact r1.tmr t
    ·simp only[VR]
   unfold Ky at hreg;split at hreg
   ·simp at hreg
   ·rename_i ys n hx;cases draw with
    |false=>
     simp only[cond_false,lβ,Co.reg.injEq]at hreg;obtain⟨rfl,rfl,rfl,_⟩:=hreg;exact ϧ hcall hx hst1 rel hmm gu
    |true=>
     simp only[cond_true]at hreg;obtain⟨hed,hreg⟩:=iX hreg;split at hreg
     ·rename_i ps' hps;simp only[lβ,Co.reg.injEq]at hreg;obtain⟨rfl,rfl,rfl,_⟩:=hreg;exact L6 hcall hm hx hed hps hst1 rel hmm gu
     ·simp at hreg
  ·simp at hev
 |seq x y ihx ihy=>
  intro c st r a φ w S hc hev rel hmm;have:=nA hc;simp only[er,Cf]at this;obtain⟨cx,cy,rfl,hx,hy⟩:=this;simp only[ce]at hev;refine wp_seq ?_;split at hev
  ·rename_i st1 hst1;refine wp_mono (ihx hx hst1 rel hmm) ?_;rintro e a1 w1 ⟨h1,φ1,S1,r1,r2,r3,r4⟩;cases e<;>simp only[zx,reduceCtorEq]at h1;exact wp_mono (ihy hy hev r1 r4) fun e a2 w2 h=>h.bind r2 r3
  ·rename_i hne;refine wp_mono (ihx hx hev rel hmm) ?_;rintro e a1 w1 ⟨h1,h2⟩;cases e with
   |normal=>
    exfalso;simp only[zx]at h1;obtain⟨ex,s1⟩:=r;simp only at h1;subst h1;exact hne s1 hev
   |exit i=>exact⟨h1,h2⟩
   |ret=>exact⟨h1,h2⟩
   |goto l=>exact h1.elim
   |panic ch=>exact h1.elim
   |outgrown=>exact h1.elim
 |cond z x y ihx ihy=>
  intro c st r a φ w S hc hev rel hmm;have:=nA hc;simp only[er,Cf]at this;obtain⟨o,cx,cy,rfl,hz,hx,hy⟩:=this;have hv:=aZ rel.tmr rel.gr hz;simp only[ce]at hev;split at hev
  ·rename_i b hb;rw[hb]at hv;simp only[VR,PR]at hv;cases b with
   |true=>exact wp_cond_true hv (ihx hx hev rel hmm)
   |false=>exact wp_cond_false hv (ihy hy hev rel hmm)
  ·simp at hev
 |block id x ihx=>
  intro c st r a φ w S hc hev rel hmm;have:=nA hc;simp only[er,Cf]at this;obtain⟨cx,rfl,hx⟩:=this;simp only[ce]at hev;refine wp_block ?_;split at hev
  ·rename_i i st1 hst1;refine wp_mono (ihx hx hst1 rel hmm) ?_;rintro e a1 w1 ⟨h1,h2⟩;rw[beq_eq]at hev;cases e with
   |exit j=>
    simp only[zx,Ex.exit.injEq]at h1;subst h1;by_cases hij:i=id
    ·simp only[hij,decide_true,cond_true,lβ]at hev;subst hev;simp only[Exit.inBlock,hij,if_true];exact⟨rfl,h2⟩
    ·simp only[hij,decide_false,cond_false,lβ]at hev;subst hev;simp only[Exit.inBlock,if_neg hij];exact⟨rfl,h2⟩
   |normal=>simp[zx]at h1
   |ret=>simp[zx]at h1
   |goto l=>exact h1.elim
   |panic ch=>exact h1.elim
   |outgrown=>exact h1.elim
  ·rename_i hne;refine wp_mono (ihx hx hev rel hmm) ?_;rintro e a1 w1 ⟨h1,h2⟩;cases e with
   |exit j=>
    exfalso;simp only[zx]at h1;obtain⟨ex,s1⟩:=r;simp only at h1;subst h1;exact hne j s1 hev
   |normal=>exact⟨h1,h2⟩
   |ret=>exact⟨h1,h2⟩
   |goto l=>exact h1.elim
   |panic ch=>exact h1.elim
   |outgrown=>exact h1.elim
 |loop live x ihx=>
  intro c st r a φ w S hc hev rel hmm;have:=nA hc;simp only[er,Cf]at this;obtain⟨cx,rfl,hx⟩:=this;simp only[ce]at hev;refine EI (fun n a1 w1=>∃st1,tU m (ce call fuel m x) live n st1=some r/\∃φ1 S1,nm G N a1 φ1 w1 S1 st1/\Fr (bm φ st.hp) S w (bm φ1 st1.hp) S1 w1/\(∀id,id<m->φ1[id]?=φ[id]?)/\m<=st1.hp.length) ?_ ?_ (n:=fuel) ⟨st,hev,φ,S,rel,Fr.refl _ _ _,fun _ _=>rfl,hmm⟩
  ·rintro a1 w1 ⟨st1,h,_⟩
   simp[tU]at h
  ·rintro n a1 w1 ⟨st1,h,φ1,S1,r1,r2,r3,r4⟩
   simp only[tU]at h;split at h
   ·simp at h
   ·rename_i st2 hst2;obtain⟨φ2,S2,q1,q2,q3,q4⟩:=Dk hst2 r1 r4;split at h
    ·rename_i st3 hst3;refine wp_mono (ihx hx hst3 q1 q4) ?_;rintro e a3 w3 ⟨h1,φ3,S3,p1,p2,p3,p4⟩;cases e<;>simp only[zx,reduceCtorEq]at h1;exact⟨st3,h,φ3,S3,p1,(r2.trans q2).trans p2,fun id hid=>((p3 id hid).trans (q3 id hid)).trans (r3 id hid),p4⟩
    ·rename_i hne;refine wp_mono (ihx hx h q1 q4) ?_;rintro e a3 w3 ⟨h1,h2⟩;have hb:=h2.bind (r2.trans q2) (fun id hid=>(q3 id hid).trans (r3 id hid));cases e with
     |normal=>
      exfalso;simp only[zx]at h1;obtain⟨ex,s1⟩:=r;simp only at h1;subst h1;exact hne s1 h
     |exit i=>exact⟨h1,hb⟩
     |ret=>exact⟨h1,hb⟩
     |goto l=>exact h1.elim
     |panic ch=>exact h1.elim
     |outgrown=>exact h1.elim
 |exit id=>
  intro c st r a φ w S hc hev rel hmm;have:=nA hc;simp only[er,Cf]at this;subst this;simp only[ce,lβ]at hev;subst hev;exact wp_exit ⟨rfl,Later.refl rel hmm⟩
 |ret=>
  intro c st r a φ w S hc hev rel hmm;have:=nA hc;simp only[er,Cf]at this;subst this;simp only[ce,lβ]at hev;subst hev;exact wp_ret ⟨rfl,Later.refl rel hmm⟩
 |gh g x ihx=>
  intro c st r a φ w S hc hev rel hmm;simp only[er]at hc;simp only[ce]at hev;split at hev
  ·rename_i st1 hst1;obtain⟨φ1,S1,r1,r2,r3,r4⟩:=Dk hst1 rel hmm;cases hg:LM g with
   |some g'=>
    simp only[yR,hg]at hev;split at hev
    ·rename_i ex st2 hev2;split at hev
     ·rename_i st3 hst3;simp only[lβ]at hev;subst hev;refine wp_mono (ihx hc hev2 r1 r4) fun e a2 w2 h=>?_
      obtain⟨h1,φ2,S2,q1,q2,q3,q4⟩:=h;obtain⟨φ3,S3,p1,p2,p3,p4⟩:=Dk hst3 q1 q4;exact Post.bind (r:=(ex,st3)) r2 r3 ⟨h1,φ3,S3,p1,q2.trans p2,fun id hid=>(p3 id hid).trans (q3 id hid),p4⟩
     ·simp at hev
    ·simp at hev
   |none=>
    simp only[yR,hg]at hev;exact wp_mono (ihx hc hev r1 r4) fun e a2 w2 h=>h.bind r2 r3
  ·simp at hev
end
end
section
variable [Letters]
section
variable {P:Program} {G:bP} {raw:Nat->Bool} {N m:Nat} {call:aG} {a:Act} {φ:List cQ} {w:World} {S:Nat->Prop} {st st':St} {hp:List Ob}
def rx:∀(ds:List D) (n t:Nat),get (eX ds n) t=if n<=t then ds.getD (t - n) .junk else .junk
 |[],n,t=>by simp[eX,get]
 |d::r,n,t=>by
  simp only[eX,get];rw[beq_eq,rx r (n+1) t];grind
variable {ds:List D} {vs:List Value}
def Qf (h:Pw (VR φ w S) ds vs)(k:Nat):Rp φ w S (eX ds 0) {tmps:=vs.toArray++Array.replicate k undef,defers:=[]}:=by
 intro t;rw[rx];simp only[Nat.zero_le,if_true,Nat.sub_zero];rw[mξ];cases hd:ds[t]? with
 |none=>simp only[Option.getD_none,VR]
 |some d=>
  obtain⟨v,hv,hr⟩:=h.get hd;have hlt:t<vs.length:=by
   grind
  rw[Array.getD_eq_getD_getElem?,Array.getElem?_append_left (by omega)];simp_all
def Ϭ (rel:nm G N a φ w S st){r0:ResultVar}{r:Rv}{d:D}(hr:cRv P r0=some r)(h:G4 st r=some d):
  ∃v,(match r0 with| .tmp t=>(pure (a.tmps.getD t undef):Sem Value)| .cell x t=>do loadVar t (<-asAddr (a.tmps.getD x undef))).run P w= .ok v w/\VR φ w S d v:=by
 cases r0 with
 |tmp t=>
  simp only[cRv,lβ]at hr;subst hr;simp only[G4,lβ]at h;subst h;exact⟨_,rfl,rel.tmr t⟩
 |cell x t=>
  simp only[cRv]at hr;split at hr
  ·rename_i y hy;simp at hr;subst hr;have ht:=ek hy;simp only[G4]at h;split at h
   ·rename_i id off hb;split at h
    ·rename_i cs hcs;split at h
     ·rename_i ds hds;have hob:=dH hcs (by simp);have hv:=rel.tmr x;rw[hb]at hv;obtain⟨b,hbb,hv⟩:=hv;obtain⟨vs,t',fz,h1,h2,h3,h4,_⟩:=rel.hr.obj id _ _ hbb hob;obtain⟨hl,rfl⟩:=EG hds;obtain⟨v,e1,e2⟩:=qq ht (b:=b) (o:=off) ((h3.drop off).take y.size) (vQ h4) (by have:=h3.1;grind)
       (fun j c hj=>by
        have:=oR hj;simp only[World.cell?,h1];simp_all) h
      refine⟨v,?_,e2⟩;simp only[hv,asAddr,Sem.run_bind,Sem.run_pure,Result.andThen_ok,e1]
     ·simp at h
    ·simp at h
   ·simp at h
  ·grind
def Og (rel:nm G N a φ w S st):∀{l:List ResultVar} {rs:List Rv} {ds:List D},PV P l=some rs->j0 st rs=some ds->
  ∃vs:List Value,(l.mapM fun(r:ResultVar)=>(match r with| .tmp t=>(pure (a.tmps.getD t undef):Sem Value)| .cell x t=>do loadVar t (<-asAddr (a.tmps.getD x undef)))).run P w= .ok vs w/\Pw (VR φ w S) ds vs
 |[],rs,ds,hr,h=>by
  simp only[PV,lβ]at hr;subst hr;simp only[j0,lβ]at h;subst h;exact⟨[],rfl,Pw.nil⟩
 |r::l,rs,ds,hr,h=>by
  simp only[PV]at hr;split at hr
  ·rename_i x xs hx hxs;simp at hr;subst hr;simp only[j0]at h;split at h
   ·rename_i d hd;split at h
    ·rename_i es hes;simp at h;subst h;obtain⟨v,h1,h2⟩:=Ϭ (P:=P) rel hx hd;obtain⟨vs,h3,h4⟩:=Og rel hxs hes;refine⟨v::vs,?_,Pw.cons h2 h4⟩;simp_all
    ·simp at h
   ·simp at h
  ·grind
variable {fn:Func}
def I2 {tmps:Array Value}{us:List Value}(h:(fn.results.toList.mapM fun(r:ResultVar)=>(match r with| .tmp t=>(pure (tmps.getD t undef):Sem Value)| .cell x t=>do loadVar t (<-asAddr (tmps.getD x undef)))).run P w= .ok us w):
  (results fn tmps).run P w= .ok (if hh:us.toArray.size=1 then us.toArray[0]else .tuple us.toArray) w:=by
 have e:results fn tmps=(do
   let vs <-fn.results.mapM fun(r:ResultVar)=>(match r with| .tmp t=>(pure (tmps.getD t undef):Sem Value)| .cell x t=>do loadVar t (<-asAddr (tmps.getD x undef)))
   pure (if h:vs.size=1 then vs[0]else .tuple vs)):=by
  rfl
 rw[e,Array.mapM_eq_mapM_toList];simp_all
def ϡ (h:Pw (VR φ w S) ds vs):VR φ w S (one ds) (if hh:vs.toArray.size=1 then vs.toArray[0]else .tuple vs.toArray):=by
 have hlen:=h.1;unfold one;split
 ·obtain⟨v,r,rfl,h1,h2⟩:=h.cons_inv;simp_all
 ·have:vs.toArray.size≠1:=by
   intro hs;match ds,hlen with
   |[],hl=>simp_all
   |[d],_=>simp_all
   |_::_::_,hl=>simp_all
  rw[dif_neg this];exact⟨_,rfl,VRs_iff.2 (by omega)⟩
def KW:∀{ds:List D} {vs:List Value} {hp:List Ob} {S:Nat->Prop},HR φ w S hp->Pw (VR φ w S) ds vs->∃S',HR φ w S' (ru hp ds).2/\Pw (VR φ w S') (ru hp ds).1 vs/\Fr (bm φ hp) S w (bm φ (ru hp ds).2) S' w/\(ru hp ds).2.length=hp.length
 |[],vs,hp,S,hr,h=>⟨S,hr,by obtain rfl:=h.nil_inv;exact Pw.nil,Fr.refl _ _ _,rfl⟩
 |d::r,vs,hp,S,hr,h=>by
  obtain⟨v,us,rfl,h1,h2⟩:=h.cons_inv;simp only[ru];split
  ·rename_i x hx;have hz:((dids d).map fun i=>(i,aS hp i))=(dids d).zip ((dids d).map (aS hp)):=(sJ (aS hp) _).symm;rw[hz]at hx ⊢
   obtain⟨k1,k2⟩:=hr.freeze (dids d);have hv:=mQ hr (S':=FX φ S hp (dids d)) (fun _ h=> .inl h) ni _ hx h1;obtain⟨S',q1,q2,q3,q4⟩:=KW k1 (h2.mono fun _ _ hh=>iF (Ext.refl φ) (fun _ _=>rfl) (fun _ h=> .inl h) _ hh);refine⟨S',q1,Pw.cons ?_ q2,k2.trans q3,by rw[q4,bH]⟩
   exact bl (fun _ _=>rfl) q3.sub _ hv
  ·obtain⟨S',q1,q2,q3,q4⟩:=KW hr h2;exact⟨S',q1,Pw.cons (iF (Ext.refl φ) (fun _ _=>rfl) q3.sub _ (NV h1)) q2,q3,q4⟩
def Ε (hr:HR φ w S hp)(h:Pw (VR φ w S) ds vs)(hm:m<=hp.length)(fz:Bool):
  ∃φ' S',VR φ' w S' (gu m fz ds hp).1 (if hh:vs.toArray.size=1 then vs.toArray[0]else .tuple vs.toArray)/\HR φ' w S' (gu m fz ds hp).2/\Fr (bm φ hp) S w (bm φ' (gu m fz ds hp).2) S' w/\∀id,id<m->φ'[id]?=φ[id]?:=by
 have key:∀(ds:List D) (hp:List Ob) (S:Nat->Prop),HR φ w S hp->Pw (VR φ w S) ds vs->m<=hp.length->∀ids,ids=cF hp bf (dids.didsL ds++(hp.take m).flatMap hO) (List.range m)->
   ∃φ',VR φ' w S (mapD (idx ids) (one ds)) (if hh:vs.toArray.size=1 then vs.toArray[0]else .tuple vs.toArray)/\HR φ' w S (cb ids hp)/\Fr (bm φ hp) S w (bm φ' (cb ids hp)) S w/\∀id,id<m->φ'[id]?=φ[id]?:=by
  rintro ds hp S hr h hm ids rfl
  have hnd:=(fc (hp:=hp) bf (dids.didsL ds++(hp.take m).flatMap hO) (List.range m) List.nodup_range).1;exact⟨_,xB (oO _ φ) _ (ϡ h),hr.shrink hnd,(Fr.refl _ _ _).less fun b hb=>NJ hr _ hb,fun id hid=>BG (by rw[hr.len];exact hm) hid⟩
 unfold gu;cases fz with
 |false=>
  simp only[cond_false];obtain⟨φ',h1,h2,h3,h4⟩:=key ds hp S hr h hm _ rfl;exact⟨φ',S,h1,h2,h3,h4⟩
 |true=>
  simp only[cond_true];obtain⟨S',q1,q2,q3,q4⟩:=KW hr h;obtain⟨φ',h1,h2,h3,h4⟩:=key _ _ S' q1 q2 (by rw[q4];exact hm) _ rfl;exact⟨φ',S',h1,h2,q3.trans h3,h4⟩
variable {f:Nat}
def Vs [Mv](hmm:m<=hp.length)(hcall:eK P G call)(hmix:P.follows .mixedOrders=true){fuel:Nat}{x:Fx}(hf:P.funcs[f]?=some fn)(hx:yh P G raw fn x){r:D}{out:List Ob}(hev:og m call fuel x ds hp=some (r,out))(hr:HR φ w S hp)(hg:GR G w S)(hv:Pw (VR φ w S) ds vs):Calls P f vs.toArray w (RetOk φ hp w S r out m):=by
 obtain⟨hb,hres⟩:=hx;cases hbody:fn.body with
 |none=>rw[hbody]at hb;simp at hb
 |some c=>
  rw[hbody]at hb;simp only at hb;have rel:nm G fn.ntmps {tmps:=vs.toArray++Array.replicate (fn.ntmps - vs.toArray.size) undef,defers:=[]} φ w S ⟨eX ds 0,hp⟩:=⟨Qf hv _,hg,hr,by simp;omega,rfl⟩
  have gu:∀{ex:Ex} {st1:St} {es:List D},ce call fuel m x.body ⟨eX ds 0,hp⟩=some (ex,st1)->(ex= .norm\/ex= .ret)->j0 st1 x.res=some es->(r,out)=gu m x.fz es st1.hp->Calls P f vs.toArray w (RetOk φ hp w S r out m):=by
   intro ex st1 es h1 hex h2 h3;refine calls_of_wp hf hbody (wp_mono (K_ (m:=m) hcall hmix x.body hb h1 rel hmm) ?_);rintro e a1 w1 ⟨he,φ1,S1,r1,r2,r3,r4⟩;have fin2:a1.defers=[]/\∃v,(results fn a1.tmps).run P w1= .ok v w1/\RetOk φ hp w S r out m (.returned v) w1:=by
    refine⟨r1.defers,?_⟩;obtain⟨us,g1,g2⟩:=Og (P:=P) r1 hres h2;obtain⟨φ2,S2,q1,q2,q3,q4⟩:=Ε r1.hr g2 r4 x.fz;rw[<-h3]at q1 q2 q3;refine⟨_,?_,φ2,S2,q1,q2,r2.trans q3,fun id hid=>(q4 id hid).trans (r3 id hid)⟩
    exact I2 g1
   cases e with
   |normal=>exact fin2
   |ret=>exact fin2
   |exit i=>simp only[zx]at he;rcases hex with rfl|rfl<;>simp at he
   |goto l=>exact he.elim
   |panic ch=>exact he.elim
   |outgrown=>exact he.elim
  unfold og at hev;split at hev
  ·rename_i st1 h1;split at hev
   ·rename_i es h2;simp only[lβ]at hev;exact gu h1 (.inl rfl) h2 hev.symm
   ·simp at hev
  ·rename_i st1 h1;split at hev
   ·rename_i es h2;simp only[lβ]at hev;exact gu h1 (.inr rfl) h2 hev.symm
   ·simp at hev
  ·simp at hev
def Vr [Mv](hcall:eK P G call)(hmix:P.follows .mixedOrders=true){fuel:Nat}{x:Fx}(hf:P.funcs[f]?=some fn)(hx:yh P G raw fn x){r:D}{out:List Ob}(hev:cU call fuel x ds hp=some (r,out))(hr:HR φ w S hp)(hg:GR G w S)(hv:Pw (VR φ w S) ds vs):Calls P f vs.toArray w (RetOk φ hp w S r out hp.length):=Vs (Nat.le_refl _) hcall hmix hf hx hev hr hg hv
def fe (P:Program)(G:bP)(f:Nat)(g:LD->Option (D×List Ob)):Prop:=
 ∀xs r out,g xs=some (r,out)->eV P f/\∀w S vs,(∀b,S b->b<w.heap.size)->GR G w S->Pw (PR w S) xs vs->Calls P f vs.toArray w (RetOk [] [] w S r out 0)
def EM [Mv](P:Program)(G:bP)(f:Nat)(g:List D->List Ob->Option (D×List Ob)):Prop:=
 ∀ds hp r out,g ds hp=some (r,out)->eV P f/\∀φ w S vs,HR φ w S hp->GR G w S->Pw (VR φ w S) ds vs->Calls P f vs.toArray w (RetOk φ hp w S r out (eH f ds hp.length))
structure pj [Mv](P:Program)(G:bP)(tab:Nat->Option Fn):Prop where
 code : ∀ f x, tab f = some (.code x) → ∃ fn raw, P.funcs[f]? = some fn ∧ yh P G raw fn x ∧ (fn.name == "runtime.NumGoroutine") = false
 prim:∀f g,tab f=some (.prim g)->fe P G f g
 both : ∀ f g x, tab f = some (.both g x) → fe P G f g ∧ ∃ fn raw, P.funcs[f]? = some fn ∧ yh P G raw fn x ∧ (fn.name == "runtime.NumGoroutine") = false
 any:∀f g,tab f=some (.any g)->EM P G f g
def tt [Mv] (hmix : P.follows .mixedOrders = true) {call : aG} (hc : eK P G call) {f fuel : Nat} {fn : Func} {raw : Nat → Bool} {x : Fx} (h1 : P.funcs[f]? = some fn) (h2 : yh P G raw fn x) (h3 : (fn.name == "runtime.NumGoroutine") = false) {ds : List D} {hp : List Ob} {r : D} {out : List Ob} (h : og (eH f ds hp.length) call fuel x ds hp = some (r, out)) :
  eV P f/\∀φ w S vs,HR φ w S hp->GR G w S->Pw (VR φ w S) ds vs->Calls P f vs.toArray w (RetOk φ hp w S r out (eH f ds hp.length)):=by
 refine⟨⟨fn,h1,?_,h3⟩,fun φ w S vs hr hg hv=>Vs (rG _ _ _) hc hmix h1 h2 h hr hg hv⟩
 cases hb:fn.body with
 |none=>obtain⟨h4,_⟩:=h2;simp_all
 |some c=>rfl
def BW {g:LD->Option (D×List Ob)}(hg:fe P G f g){xs:LD}(hxs:iV ds=some xs){r:D}{out:List Ob}(h:g xs=some (r,out)):
  eV P f/\∀φ w S vs,HR φ w S []->GR G w S->Pw (VR φ w S) ds vs->Calls P f vs.toArray w (RetOk φ [] w S r out 0):=by
 obtain⟨h1,h2⟩:=hg xs r out h;refine⟨h1,fun φ w S vs hr hgr hv=>?_⟩
 have hφ:φ=[]:=lθ (by rw[hr.len];rfl);subst hφ;exact h2 w S vs hr.low hgr (qU hxs hv)
def rj [Mv](hmix:P.follows .mixedOrders=true){tab:Nat->Option Fn}(ht:pj P G tab):∀n,eK P G (evFn tab n)
 |0=>by intro f ds hp r out h;simp[evFn]at h
 |n+1=>by
  intro f ds hp r out h;simp only[evFn]at h;split at h
  ·rename_i x hx;obtain⟨fn,raw,h1,h2,h3⟩:=ht.code f x hx;exact tt hmix (rj hmix ht n) h1 h2 h3 h
  ·rename_i g hg;split at h
   ·rename_i xs hxs;split at h
    ·rw[List.length_nil,yq];exact BW (ht.prim f g hg) hxs h
    ·simp at h
   ·simp at h
  ·rename_i g x hx;obtain⟨hg,fn,raw,h1,h2,h3⟩:=ht.both f g x hx;split at h
   ·rename_i xs hxs;split at h
    ·rw[List.length_nil,yq];exact BW hg hxs h
    ·exact tt hmix (rj hmix ht n) h1 h2 h3 h
   ·exact tt hmix (rj hmix ht n) h1 h2 h3 h
  ·rename_i g hg;exact ht.any f g hg ds hp r out h
  ·simp at h
end
end
end Go.Ab
