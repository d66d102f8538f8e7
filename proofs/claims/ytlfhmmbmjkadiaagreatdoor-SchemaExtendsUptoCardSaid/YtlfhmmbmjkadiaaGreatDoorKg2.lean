import Derived.Test.YtlfhmmbmjkadiaaGreatDoorKg0
import Derived.Test.YtlfhmmbmjkadiaaGreatDoorKg1
import Derived.Test.YtlfhmmbmjkadiaaGreatDoorOg2
import Derived.Test.YtlfhmmbmjkadiaaGreatDoorOg3
set_option linter.all false
section
namespace Go.Ab
open Go
noncomputable section
def ext (q:List Ac)(c:CS):CS:={c with pr:=q}
theorem C9 {c:CS}{i e:Int}(h:(iR c i e).er=0):c.er=0:=by
 unfold iR at h;split at h
 ·assumption
 ·exact h
theorem kQ {c:CS}{i:Int}{b:Bool}(h:(cj c i b).er=0):c.er=0:=by
 unfold cj at h;split at h
 ·exact h
 ·exact C9 h
theorem tN {c:CS}{i:Int}{b:Bool}(h:(cj c i b).er=0):b=true:=by
 unfold cj at h;split at h
 ·assumption
 ·unfold iR at h;split at h
  ·cases h
  ·contradiction
theorem iw {c:CS}{i:Int}{b:Bool}(h:(cj c i b).er=0):cj c i b=c:=by
 rw[tN h];rfl
theorem kK {c:CS}{i e:Int}(he:e≠0):(iR c i e).er≠0:=by
 unfold iR;split
 ·exact he
 ·assumption
theorem S5 {c:CS}{i:Int}{s:List Nat}(h:(my c i s).2.er=0):c.er=0:=by
 unfold my at h;split at h
 ·exact h
 ·exact C9 h
theorem Ki {c c':CS}{s:List Nat}{k:Int}(h:nf c s k=some c'):c'.er=c.er:=by
 unfold nf at h;split at h
 ·simp only[lα]at h;rw[←h]
 ·cases h
theorem adA {c:CS}{i:Int}{x:No}(h:(qS c i x).er=0):c.er=0:=by
 unfold qS at h;split at h
 ·exact C9 h
 split at h
 ·exact C9 h
 ·exact h
theorem agM {c c':CS}{i k:Int}{x:No}(h:yh c i x k=some c')(h0:c'.er=0):c.er=0:=by
 unfold yh at h;split at h
 ·rename_i c3 h3;simp only[lα]at h;subst h;have:=S5 h0;rw[Ki h3]at this;exact adA (kQ this)
 ·cases h
theorem Di (c:CS)(i:Int)(x:No)(k:Int):(iT c i x k).er=c.er:=by unfold iT;split<;>rfl
theorem KK {v:CS→Int→Option (Int×CS)}(hv:∀c k r,v c k=some r→r.2.er=0→c.er=0):∀(l:List Int) (c:CS) {r:List Int×CS},ib v c l=some r→r.2.er=0→c.er=0
 |[],c,r,h,h0=>by simp only[ib,lα]at h;rw[←h]at h0;exact h0
 |k::l,c,r,h,h0=>by
  simp only[ib]at h;split at h
  ·cases h
  ·rename_i x c1 h1;split at h
   ·cases h
   ·rename_i xs c2 h2;simp only[lα]at h;rw[←h]at h0;have a:=KK hv l c1 h2 h0;exact hv _ _ _ h1 a
theorem RF {v:CS→Int→Bool→Option (Int×CS)}(hv:∀c k d r,v c k d=some r→r.2.er=0→c.er=0):∀(l:List Int) (c:CS) (d:Bool) {r:CS},sG v c l d=some r→r.er=0→c.er=0
 |[],c,d,r,h,h0=>by simp only[sG,lα]at h;rw[←h]at h0;exact h0
 |k::l,c,d,r,h,h0=>by
  simp only[sG]at h;split at h
  ·cases h
  ·rename_i x c1 h1;have a:=RF hv l c1 _ h h0;exact hv _ _ _ _ h1 a
theorem YZ {v:CS→Int→Bool→Option (Int×CS)}(hv:∀c k d r,v c k d=some r→r.2.er=0→c.er=0){c:CS}{i:Int}{x:No}{r:CS}(h:qM v c i x=some r)(h0:r.er=0):c.er=0:=by
 unfold qM at h;split at h
 ·cases h
 ·rename_i c1 h1;simp only[lα]at h;have:c1.er=0:=by
   rw[←h]at h0;split at h0
   ·have:=kQ h0;exact this
   ·exact h0
  exact RF hv _ _ _ h1 this
theorem MD:∀(f:Nat) (c:CS) (i:Int) (d:Bool) (r:Int×CS),kz f c i d=some r→r.2.er=0→c.er=0
 |0,c,i,d,r,h,h0=>by simp only[kz]at h;cases h
 |f+1,c,i,d,r,h,h0=>by
  simp only[kz]at h;split at h
  ·cases h
  ·split at h
   ·split at h
    ·cases h
    ·rename_i c1 h1;simp only[lα]at h;rw[←h]at h0;exact YZ (MD f) h1 h0
   ·split at h
    ·cases h
    ·rename_i ks c1 h1;have key:c1.er=0:=by
      split at h
      ·assumption
      ·simp only[lα]at h;rw[←h]at h0;exact h0
     exact KK (fun c k r=>MD f c k false r) _ _ h1 key
section
variable {p q:List Ac} (hq:∀t m x,j2 p t m=some x→j2 q t m=some x)
include hq
end
end
end Go.Ab
end
section
namespace Go.Ab
open Go
noncomputable section
theorem E6 {β:Type}{α:Type}[DecidableEq α]:∀(l:List (α×β)) (s t:α) (v:β),
  ((match l.findIdx? (fun(p:α×β)=>decide (s=p.1))with|some j=>l.set j (s,v)|none=>l++[(s,v)]).find? fun p=>decide (t=p.1))=if t=s then some (s,v)else l.find? fun p=>decide (t=p.1)
 |[],s,t,v=>by
  simp only[List.findIdx?_nil,List.nil_append,List.find?_cons,List.find?_nil];by_cases h:t=s<;>simp[h]
 |p::l,s,t,v=>by
  rw[mτ];by_cases h:s=p.1
  ·simp only[h,decide_true,if_true,List.set_cons_zero,List.find?_cons];by_cases ht:t=p.1<;>simp[ht]
  ·simp only[h,decide_false,Bool.false_eq_true,if_false];have ih:=E6 l s t v;cases hf:l.findIdx? (fun p=>decide (s=p.1))with
   |none=>
    rw[hf]at ih;simp only[Option.map_none,List.cons_append,List.find?_cons]at ih ⊢
    rw[ih];by_cases ht:t=p.1
    ·subst ht;simp[Ne.symm h]
    ·simp[ht]
   |some j=>
    rw[hf]at ih;simp only[Option.map_some,List.set_cons_succ,List.find?_cons]at ih ⊢
    rw[ih];by_cases ht:t=p.1
    ·subst ht;simp[Ne.symm h]
    ·simp[ht]
theorem nq {β:Type}(l:List (List Nat×β))(s t:List Nat)(v:β):c8 (nK l s v) t=if t=s then some v else c8 l t:=by
 refine(congrArg (Option.map (·.2)) (E6 l s t v)).trans ?_;unfold c8;split<;>rfl
theorem xP {β:Type}(l:List (Int×β))(s t:Int)(v:β):sW (tv l s v) t=if t=s then some v else sW l t:=by
 refine(congrArg (Option.map (·.2)) (E6 l s t v)).trans ?_;unfold sW;split<;>rfl
def Loc1 (lo:List Pa)(s:List Nat)(v:Vr):Prop:=v.field=false∧∃j:Nat,v.slot=j∧lo[j]?=some ⟨s,v.kind⟩
theorem Loc1.mono {lo lo':List Pa}{s:List Nat}{v:Vr}(h:Loc1 lo s v)(hp:∀(j:Nat) (x:Pa),lo[j]?=some x→lo'[j]?=some x):Loc1 lo' s v:=
 ⟨h.1,by obtain⟨j,h1,h2⟩:=h.2;exact⟨j,h1,hp _ _ h2⟩⟩
def aiW (lo lo':List Pa):Prop:=∀(j:Nat) (x:Pa),lo[j]?=some x→lo'[j]?=some x
structure afi (ns:List No)(c:CS)(b:Nat):Prop where
 sc:∀s v,c8 c.sc s=some v→Loc1 c.lo s v
 va:∀i v,sW c.va i=some v→∃j:Nat,i=j∧j<b∧∃x,ns[j]?=some x∧(x.op=2∨x.op=8∨x.op=9)∧(c8 c.fs x.name=some v∨Loc1 c.lo x.name v)∧
  (x.op=2→sW c.ki i=some v.kind)∧(x.op≠2→∃(k:Nat) (r:List Int),x.kids=(k:Int)::r∧k<b∧sW c.ki (k:Int)=some v.kind)
theorem afi.le {ns:List No}{c:CS}{b b':Nat}(h:afi ns c b)(hb:b≤b'):afi ns c b':=
 ⟨h.sc,fun i v hv=>by
  obtain⟨j,h1,h2,x,h3,h4,h5,h6,h7⟩:=h.va i v hv;exact⟨j,h1,by omega,x,h3,h4,h5,h6,fun hne=>by
   obtain⟨k,r,g1,g2,g3⟩:=h7 hne;exact⟨k,r,g1,by omega,g3⟩⟩⟩
inductive OpR (c:CS)(i:Int)(x:No)(ks:List Int):Int→CS→Prop
 |same {k}:x.op≠2→x.op≠8→x.op≠9→OpR c i x ks k c
 |var {v}:x.op=2→pJ c x.name=some v→OpR c i x ks v.kind {c with va:=tv c.va i v}
 |lett {y r}:x.op=8→ks=y::r→OpR c i x ks 0 {c with sc:=nK c.sc x.name ⟨y,c.lo.length,false⟩,le:=nK c.le x.name true,lo:=c.lo++[⟨x.name,y⟩],va:=tv c.va i ⟨y,c.lo.length,false⟩}
 |asg {v r}:x.op=9→ks=v.kind::r→pJ c x.name=some v→OpR c i x ks 0 {c with va:=tv c.va i v}
theorem abw {c:CS}{i:Int}{s:List Nat}(h:(my c i s).2.er=0):∃v,pJ c s=some v∧my c i s=(v,{c with va:=tv c.va i v}):=by
 unfold my at h ⊢
 cases hf:pJ c s with
 |some v=>exact⟨v,rfl,rfl⟩
 |none=>rw[hf]at h;exact absurd h (kK (by decide))
theorem ah5 {c:CS}{i e:Int}(h:(Au c i e).er=0):Au c i e=c:=by
 unfold Au at h ⊢
 split
 ·rfl
 ·rename_i hne;rw[if_neg hne]at h;exact absurd h (kK hne)
theorem ajs {c c':CS}{i k:Int}{x:No}{ks:List Int}(h:opT c i x ks=some (k,c'))(h0:c'.er=0):OpR c i x ks k c':=by
 unfold opT at h;by_cases h7:x.op=7
 ·rw[if_pos h7]at h;unfold RI at h;cases hl:j2 c.pr x.name x.v.s with
  |none=>
   rw[hl]at h;simp only[lα,lε]at h;rw[←h.2]at h0;exact absurd h0 (kK (by decide))
  |some m=>
   rw[hl]at h;match ks,h with
   |a::r,h=>
    simp only[lα,lε]at h;rw[←h.2]at h0 ⊢
    rw[iw h0];exact .same (by omega) (by omega) (by omega)
 rw[if_neg h7]at h;by_cases h6:x.op≤6
 ·rw[if_pos h6]at h;unfold E0 at h;by_cases h1:x.op=1
  ·rw[if_pos h1]at h;simp only[lα,lε]at h;rw[←h.2];exact .same (by omega) (by omega) (by omega)
  rw[if_neg h1]at h;by_cases h3:x.op=3
  ·rw[if_pos h3]at h;simp only[lα,lε]at h;rw[←h.2];exact .same (by omega) (by omega) (by omega)
  rw[if_neg h3]at h;by_cases h2:x.op=2
  ·rw[if_pos h2]at h;simp only[lα,lε]at h;rw[←h.2]at h0;obtain⟨v,g1,g2⟩:=abw h0;rw[←h.1,←h.2,g2];exact .var h2 g1
  rw[if_neg h2]at h;by_cases h4:x.op=4
  ·rw[if_pos h4]at h;match ks,h with
   |a::r,h=>
    simp only[lα,lε]at h;rw[←h.2]at h0 ⊢
    rw[iw h0];exact .same (by omega) (by omega) (by omega)
  rw[if_neg h4]at h;by_cases h5:x.op=5
  ·rw[if_pos h5]at h;match ks,h with
   |a::b::r,h=>
    simp only[lα,lε]at h;rw[←h.2]at h0 ⊢
    rw[iw h0];exact .same (by omega) (by omega) (by omega)
  rw[if_neg h5]at h;simp only[lα,lε]at h;rw[←h.2]at h0 ⊢
  rw[ah5 h0];exact .same (by omega) (by omega) (by omega)
 rw[if_neg h6]at h;cases hs:yP c i x ks with
 |none=>rw[hs]at h;cases h
 |some c1=>
  rw[hs]at h;simp only[lα,lε]at h;obtain⟨rfl,rfl⟩:=h;unfold yP at hs;by_cases h8:x.op=8
  ·rw[if_pos h8]at hs;match ks,hs with
   |y::r,hs=>
    simp only at hs;have hz:=agM hs h0;unfold yh at hs;cases hd:nf (cj (qS c i x) i (decide (y=x.v.k))) x.name x.v.k with
    |none=>rw[hd]at hs;cases hs
    |some c2=>
     rw[hd]at hs;simp only[lα]at hs;rw[←hs]at h0;have e2:=S5 h0;rw[Ki hd]at e2;have hy:=tN e2;rw[iw e2]at hd;simp only[lη]at hy;have e3:=kQ e2;have hl1:qS c i x=c∧Ap c x.name≠true:=by
      unfold qS at e3 ⊢
      split
      ·rename_i hdup;rw[if_pos hdup]at e3;exact absurd e3 (kK (by decide))
      ·rename_i hdup;rw[if_neg hdup]at e3;split
       ·rename_i h8';rw[if_pos h8']at e3;exact absurd e3 (kK (by decide))
       ·exact⟨rfl,hdup⟩
     rw[hl1.1]at hd;unfold nf at hd;split at hd
     ·simp only[lα]at hd;subst hd;obtain⟨v,g1,g2⟩:=abw h0;rw[g2]at hs;have hfs:c8 c.fs x.name=none:=by
       cases hg:c8 c.fs x.name with
       |none=>rfl
       |some w=>exact absurd (by unfold Ap;rw[hg]) hl1.2
      unfold pJ at g1;simp only[hfs,nq,if_true,lα]at g1;rw[←hs,←g1,←hy];exact .lett h8 rfl
     ·cases hd
  rw[if_neg h8]at hs;by_cases h9:x.op=9
  ·rw[if_pos h9]at hs;match ks,hs with
   |y::r,hs=>
    simp only[lα]at hs;rw[←hs]at h0 ⊢
    have hb:=tN h0;rw[iw h0];obtain⟨v,g1,g2⟩:=abw (kQ h0);rw[g2]at hb ⊢
    simp only[lη]at hb;exact .asg h9 (by rw[hb]) g1
  rw[if_neg h9]at hs;have hsame:c1=c:=by
   by_cases h11:x.op=11∨x.op=12
   ·rw[if_pos h11]at hs;match ks,hs with
    |y::r,hs=>
     simp only[lα]at hs;rw[←hs]at h0 ⊢
     exact iw h0
   rw[if_neg h11]at hs;by_cases h13:x.op=13
   ·rw[if_pos h13]at hs;match ks,hs with
    |[],hs=>
     simp only[lα]at hs;rw[←hs]at h0 ⊢
     exact iw h0
    |y::r,hs=>
     simp only[lα]at hs;rw[←hs]at h0 ⊢
     rw[iw h0];exact iw (kQ h0)
   rw[if_neg h13]at hs;by_cases h15:x.op=15
   ·rw[if_pos h15]at hs;simp only[lα]at hs;rw[←hs]at h0 ⊢
    exact iw h0
   rw[if_neg h15]at hs;by_cases h16:x.op=16
   ·rw[if_pos h16]at hs;simp only[lα]at hs;rw[←hs]at h0 ⊢
    exact iw h0
   rw[if_neg h16]at hs;by_cases h17:x.op=17
   ·rw[if_pos h17]at hs;match ks,hs with
    |y::r,hs=>
     simp only[lα]at hs;rw[←hs]at h0 ⊢
     exact iw h0
   rw[if_neg h17]at hs;simp only[lα]at hs;exact hs.symm
  subst hsame;exact .same (by omega) h8 h9
structure Kp (c c':CS)(b:Nat):Prop where
 lo:aiW c.lo c'.lo
 ki:∀j:Nat,j<b→sW c'.ki (j:Int)=sW c.ki (j:Int)
theorem Kp.refl (c:CS)(b:Nat):Kp c c b:=⟨fun _ _ h=>h,fun _ _=>rfl⟩
theorem Kp.trans {a b c:CS}{k k':Nat}(h:Kp a b k)(g:Kp b c k')(hk:k≤k'):Kp a c k:=⟨fun j x hx=>g.lo j x (h.lo j x hx),fun j hj=>(g.ki j (by omega)).trans (h.ki j hj)⟩
theorem adu (c:CS)(i:Int)(x:No)(k:Int)(j:Int):sW (iT c i x k).ki j=if x.op≤7∧j=i then some k else sW c.ki j:=by
 unfold iT;by_cases h:x.op≤7
 ·rw[if_pos h,xP];by_cases hj:j=i<;>simp[h,hj]
 ·rw[if_neg h,if_neg (fun g=>h g.1)]
theorem WO (c:CS)(i:Int)(x:No)(k:Int):(iT c i x k).va=c.va∧(iT c i x k).sc=c.sc∧(iT c i x k).lo=c.lo∧(iT c i x k).fs=c.fs:=by
 unfold iT;split<;>exact⟨rfl,rfl,rfl,rfl⟩
theorem Fc {ns:List No}{i:Nat}{x:No}(h:ns[i]?=some x):i<ns.length:=by
 rcases lπ i ns.length with h1|h1
 ·exact h1
 ·rw[lθ h1]at h;cases h
theorem C6 {α:Type}{l:List α}{i:Int}{x:α}(h:jY l i=some x):∃j:Nat,i=j∧l[j]?=some x:=by
 unfold jY at h;split at h
 ·exact⟨i.toNat,by omega,h⟩
 ·cases h
end
end Go.Ab
end
section
namespace Go.Ab
open Go
set_option maxRecDepth 100000
noncomputable section
structure zw (p:List Ac):Prop where
 ty:p.length<1501
 ac:∀a∈p,SzA a
theorem zw.p {p:List Ac}(h:zw p):SzP p:=⟨h.ty,fun a ha=>(h.ac a ha).me,fun a ha=>(h.ac a ha).fl,fun a ha m hm=>⟨((h.ac a ha).mm m hm).ns,fun x hx=>(((h.ac a ha).mm m hm).nx x hx).ks,((h.ac a ha).mm m hm).ps⟩⟩
theorem Ub {p:List Ac}{fs:List (List Nat×Vr)}{i:Nat}{all:List Me}:∀(r:List Me) (j:Nat) (acc:List CS),(∀m∈r,Dv m.nodes∧m.nodes.length<1501∧m.params.length<1501)→∃o,Cy 1501 p fs i all r j acc=some o
 |[],j,acc,_=>⟨_,rfl⟩
 |m::r,j,acc,h=>by
  obtain⟨h1,h2,h3⟩:=h m (lυ ..);simp only[Cy];split
  ·exact⟨_,rfl⟩
  ·obtain⟨o,ho⟩:=V6 p fs m h1 h2 h3;rw[ho];cases o with
   |none=>exact⟨_,rfl⟩
   |some c=>
    simp only;split
    ·exact Ub r (j+1) _ fun m hm=>h m (lψ _ hm)
    ·exact⟨_,rfl⟩
theorem UM {p:List Ac}:∀(r:List Ac) (j:Nat) (acc:List (List CS)),(∀a∈r,∀m∈a.methods,Dv m.nodes∧m.nodes.length<1501∧m.params.length<1501)→∃o,CZ 1501 p r j acc=some o
 |[],j,acc,_=>⟨_,rfl⟩
 |a::r,j,acc,h=>by
  simp only[CZ];split
  ·exact⟨_,rfl⟩
  ·cases Ck [] a.fields 0 with
   |none=>exact⟨_,rfl⟩
   |some fs=>
    obtain⟨o,ho⟩:=Ub (p:=p) (fs:=fs) (i:=j) (all:=a.methods) a.methods 0 [] (h a (lυ ..));simp only[ho];cases o with
    |inl e=>exact⟨_,rfl⟩
    |inr l=>exact UM r (j+1) _ fun b hb=>h b (lψ _ hb)
def H2 (p:List Ac):An:=bif cB p then(CZ 1501 p p 0 []).getD (.bad 0 0 0 1)else .bad 0 0 0 1
theorem I5 {p:List Ac}(hp:zw p)(hv:cB p=true):∃o,CZ 1501 p p 0 []=some o:=
 UM p 0 [] fun a ha m hm=>⟨((Qw hv).2 a ha m hm).1,((hp.ac a ha).mm m hm).ns,((hp.ac a ha).mm m hm).ps⟩
abbrev pD (p:List Ac):D:= .p (.agg [.slice 3 (p.map Ac.e)])
theorem ahN {n:Nat}(p:List Ac)(hp:zw p):evFn lay0.tab (n+9008) 53 [pD p] []=VO p (H2 p):=by
 have hv:=MS (n:=n+7496) p (fun a ha=>(hp.ac a ha).b) (by omega);refine UV (f:=1501) (n:=n) p hp.p (cB p) (H2 p) hv ?_;unfold H2;cases h:cB p with
 |false=>exact .inl ⟨rfl,rfl⟩
 |true=>
  obtain⟨o,ho⟩:=I5 hp h;exact .inr ⟨rfl,by rw[ho];rfl⟩
def An.pl:An→bq| .bad t m n _=>⟨t,m,n⟩| .good _=>⟨0,0,0⟩
def An.er:An→Int| .bad _ _ _ e=>e| .good _=>0
theorem af4 (c:po)(K:po→R):N9 c.hp K=K c:=rfl
theorem dPl (t m n:Int)(K:bq→R):cf (plD t m n) K=K ⟨t,m,n⟩:=rfl
theorem afE (i o:Nat)(a b:R):iL (KH (.box i o)) a b=a:=rfl
theorem afD (x:Da)(a b:R):iL (KH (.p x)) a b=b:=rfl
theorem dBx (i o:Nat)(K:R):RP i o (.box i o) K=K:=by unfold RP;simp;rfl
theorem af5 (K:R):dNp .nilptr K=K:=rfl
theorem afc {n:Nat}{p:List Ac}(hp:zw p){t m k e:Int}(ha:H2 p= .bad t m k e)(K:KV):br lay0.tab (n+9008) 53 [pD p] [] K=K (.tup [.p .nilptr,.p (plD t m k),.p (.int .i64 e)]) []:=ab (by rw[ahN p hp,ha];rfl) K
theorem abB {n:Nat}{p:List Ac}(hp:zw p){bs:List (List CS)}(ha:H2 p= .good bs)(K:KV):br lay0.tab (n+9008) 53 [pD p] [] K=K (.tup [.box 0 0,.p (plD 0 0 0),.p (.int .i64 0)]) (sX p bs).hp:=ab (by rw[ahN p hp,ha];rfl) K
theorem MU {n:Nat}(p:List Ac)(hp:zw p):evFn lay0.tab (n+9009) 18 [pD p] []=some (.tup [.p (H2 p).pl.e,.p (.int .i64 (H2 p).er)],[]):=by
 apply NE (n+9008) ⟨p.map Ac.e⟩;unfold wN;show br lay0.tab (n+9008) 53 [pD p] [] _=_;cases ha:H2 p with
 |bad t m k e=>
  simp only[afc hp ha,bH,ec,ba,aC,bz,dPl,afE,afD,dBx,af5,af4,bt,aD];rfl
 |good bs=>
  simp only[abB hp ha,bH,ec,ba,aC,bz,dPl,afE,afD,dBx,af5,af4,bt,aD];rfl
theorem ai0 (u:bq)(K:bq→R):cf u.e K=K u:=rfl
end
end Go.Ab
end
section
namespace Go.Ab
open Go
set_option maxRecDepth 100000
noncomputable section
def Gk (i:Int):List Int→List Int→List Int
 |[],out=>out
 |k::r,out=>Gk i r (out.set k.toNat i)
def AX:List No→Nat→List Int→List Int
 |[],_,out=>out
 |x::r,i,out=>AX r (i+1) (Gk (i:Int) x.kids out)
def yA (ns:List No):List Int:=AX ns 0 (List.replicate ns.length (-1))
theorem pT (i:Int):∀(l out:List Int),(Gk i l out).length=out.length
 |[],_=>rfl
 |k::r,out=>by simp only[Gk];rw[pT];simp
theorem FU:∀(l:List No) (i:Nat) (out:List Int),(AX l i out).length=out.length
 |[],_,_=>rfl
 |x::r,i,out=>by simp only[AX];rw[FU,pT]
theorem af2 (v:Int):Nat.beq (cells (iE v)).length 1=true:=rfl
theorem ahb (v w:Int):cX (iE v) (cells (Da.int .i64 w))=some (iE w):=rfl
theorem IJ {m:Nat}(l:LD)(N:Nat)(hN:N<1501)(k0:fC→R):∀(e q j:Nat) (out:List Int),j+e=N→e<q→out.length=N→
  L_r19Parents_1 (br lay0.tab m) m k0 q (l,N,(j:Int),out.map iE)=k0 (l,N,(N:Int),(out.take j++List.replicate (N - j) (-1)).map iE)
 |0,q+1,j,out,h,_,ho=>by
  obtain rfl:j=N:=by omega
  rw[ra];simp only[fK,bX,aR,Nat.sub_self,List.replicate_zero,mε,mθ (show out.length≤j by omega)]
 |e+1,q+1,j,out,h,hq,ho=>by
  have hj:j<out.length:=by omega
  rw[ra];simp only[fK,cG (show((j:Int)<(N:Int)) by omega),aO,bE,show(0:Int)≤(j:Int) by omega,decide_true,Nat.zero_add,Int.toNat_natCast,np out hj,bf,af2,ahb,wS (show j<bT by unfold bT;omega)];rw[←List.map_set,IJ l N hN k0 e q (j+1) (out.set j (-1)) (by omega) (by omega) (by simp;omega)];congr 5;rw[List.take_add_one,qγ hj,List.take_set_of_le (Nat.le_refl _),show N - j=(N - (j+1))+1 by omega,List.replicate_succ];simp
theorem IL {m:Nat}(ns:List No)(i:Nat)(hi:i<ns.length)(hN:ns.length<1501)(k0:fE→R)(hk:fp ns.length ns[i].kids)(hl:ns[i].kids.length<1501):∀(e q j:Nat) (out:List Int),j+e=ns[i].kids.length→e<q→out.length=ns.length→
  L_r19Parents_3 (br lay0.tab m) m k0 q (ns.map No.e,ns.length,(i:Int),(j:Int),out.map iE)=k0 (ns.map No.e,ns.length,(i:Int),(ns[i].kids.length:Int),(Gk (i:Int) (ns[i].kids.drop j) out).map iE)
 |0,q+1,j,out,h,_,ho=>by
  obtain rfl:j=ns[i].kids.length:=by omega
  rw[rc];simp only[fN,aE,aM,aI hi,bf,vZ,qb,lβ,bX,aR,List.drop_length,Gk]
 |e+1,q+1,j,out,h,hq,ho=>by
  have hj:j<ns[i].kids.length:=by omega
  obtain⟨g1,g2⟩:=hk ns[i].kids[j] (lι _);have g3:ns[i].kids[j].toNat<out.length:=by omega
  rw[rc,lξ hj];simp only[fN,aE,aM,aI hi,bf,vZ,qb,lβ,cG (show((j:Int)<(ns[i].kids.length:Int)) by omega),aO,aI hj,dI,bE,g1,decide_true,cG g2,Nat.zero_add,np out g3,af2,ahb,wS (show j<bT by unfold bT;omega),Gk];rw[←List.map_set];exact IL ns i hi hN k0 hk hl e q (j+1) _ (by omega) (by omega) (by simp;omega)
theorem IK {m:Nat}(ns:List No)(hm:1501<m)(hN:ns.length<1501)(k0:fD→R)(hk:∀x∈ns,fp ns.length x.kids)(hl:∀x∈ns,x.kids.length<1501):∀(e q i:Nat) (out:List Int),i+e=ns.length→e<q→out.length=ns.length→
  L_r19Parents_2 (br lay0.tab m) m k0 q (ns.map No.e,ns.length,(i:Int),out.map iE)=k0 (ns.map No.e,ns.length,(ns.length:Int),(AX (ns.drop i) i out).map iE)
 |0,q+1,i,out,h,_,ho=>by
  obtain rfl:i=ns.length:=by omega
  rw[rb];simp only[fM,lβ,bX,aR,List.drop_length,AX]
 |e+1,q+1,i,out,h,hq,ho=>by
  have hi:i<ns.length:=by omega
  have hx:=lι hi;rw[rb,lξ hi];have g:=fun k0'=>IL (m:=m) ns i hi hN k0' (hk _ hx) (hl _ hx) ns[i].kids.length m 0 out (by omega) (by have:=hl _ hx;omega) ho
  simp only[show((0:Nat):Int)=0 from rfl,List.drop_zero]at g;simp only[fM,lβ,cG (show((i:Int)<(ns.length:Int)) by omega),aO,g,wS (show i<bT by unfold bT;omega),AX];exact IK ns hm hN k0 hk hl e q (i+1) _ (by omega) (by omega) (by rw[pT];exact ho)
theorem Jd {n:Nat}(ns:List No)(hN:ns.length<1501)(hk:∀x∈ns,fp ns.length x.kids)(hl:∀x∈ns,x.kids.length<1501):evFn lay0.tab (n+1503) 62 [.p (.slice 8 (ns.map No.e))] []=some (.p (.slice 1 ((yA ns).map iE)),[]):=by
 apply JW (n+1502) (ns.map No.e);unfold qi;have hr:List.replicate ns.length (Da.int .i64 0)=(List.replicate ns.length (0:Int)).map iE:=by simp[iE]
 have g1:=fun k0=>IJ (m:=n+1502) (ns.map No.e) ns.length hN k0 ns.length (n+1502) 0 (List.replicate ns.length 0) (by omega) (by omega) (by simp)
 have g2:=fun k0=>IK (m:=n+1502) ns (by omega) hN k0 hk hl ns.length (n+1502) 0 (List.replicate ns.length (-1)) (by omega) (by omega) (by simp)
 simp only[show((0:Nat):Int)=0 from rfl,List.take_zero,List.nil_append,Nat.sub_zero,List.drop_zero]at g1 g2;simp only[lβ,Int.toNat_natCast,hr,g1,g2,bE,show(0:Int)≤(ns.length:Int) by omega,Int.le_refl,decide_true,Bool.true_and,show Nat.ble (ns.length*8) 281474976710656=true by rw[Nat.ble_eq];omega,show(ns.length:Int)≤9223372036854775807 by omega,aO,List.drop_zero];rw[mθ (by rw[lβ,FU];simp)];rfl
def F2 (par:List Int)(at_:Nat)(s:List Nat):List No→Nat→Nat→Option Vr
 |[],_,_=>none
 |x::r,i,sl=>if i≤at_ then(if x.op=8 then(if x.name=s∧(i=at_∨(at_:Int)<par.getD i 0)then some ⟨x.v.k,sl,false⟩else F2 par at_ s r (i+1) (sl+1))else F2 par at_ s r (i+1) sl)else none
def IU (a:Me)(par:List Int)(at_:Nat)(s:List Nat):Option Vr:=F2 par at_ s a.nodes 0 a.params.length
def tw (a:Ac)(m:Me)(par:List Int)(at_:Nat)(s:List Nat):Option Vr:=match a.fields.findIdx? fun f=>aN f.name s with
 |some j=>a.fields[j]?.map fun f=>⟨f.kind,j,true⟩
 |none=>match m.params.findIdx? fun f=>aN f.name s with
  |some j=>m.params[j]?.map fun f=>⟨f.kind,j,false⟩
  |none=>IU m par at_ s
def HP (o:Option Vr):Da:=match o with
 |some v=> .agg [.int .i64 v.kind,.int .i64 v.slot,.bool v.field,.bool true]
 |none=> .agg [.int .i64 0,.int .i64 0,.bool false,.bool false]
theorem I7 {m:Nat}(M:Me)(par:List Int)(at_:Nat)(s:List Nat)(hp:par.length=M.nodes.length)(hN:M.nodes.length<1501)(k0:ah×Int×Int→R)(k1:ii→R)(W:R)(hk1:∀x,k1 x=W):∀(e q j sl:Nat),j+e=M.nodes.length→e<q→sl≤j+1501→
  L_r19variable_3 (br lay0.tab m) m k0 k1 q (par.map iE,(at_:Int),s,(sl:Int),(j:Int),M.r)=match F2 par at_ s (M.nodes.drop j) j sl with|some v=>k0 (M.r,v.kind,v.slot)|none=>W
 |0,q+1,j,sl,h,_,_=>by
  obtain rfl:j=M.nodes.length:=by omega
  rw[pz];simp only[fb,show M.r.Nodes=M.nodes.map No.e from rfl,lβ,bX,aR,List.drop_length,F2,hk1]
 |e+1,q+1,j,sl,h,hq,hs=>by
  have hj:j<M.nodes.length:=by omega
  have hjp:j<par.length:=by omega
  rw[pz,lξ hj];have ih:=fun sl hs=>I7 (m:=m) M par at_ s hp hN k0 k1 W hk1 e q (j+1) sl (by omega) (by omega) hs
  have hpg:par.getD j 0=par[j]:=by simp[lρ,lγ hjp]
  simp only[fb,show M.r.Nodes=M.nodes.map No.e from rfl,lβ,cG (show((j:Int)<(M.nodes.length:Int)) by omega),aO,aE,aM,aI hj,aI hjp,bf,vZ,uc,Gy,IH,dI,wS (show j<bT by unfold bT;omega),wS (show sl<bT by unfold bT;omega),F2,hk1,ih (sl+1) (by omega),ih sl (by omega),hpg];simp only[bE,ep,aW,de,co,lQ];by_cases h1:j≤at_
  ·rw[if_pos (show(j:Int)≤(at_:Int) by omega),if_pos h1];by_cases h8:M.nodes[j].op=8
   ·rw[if_pos h8,if_pos h8];by_cases hn:M.nodes[j].name=s
    ·rw[if_pos hn];by_cases he:j=at_
     ·rw[if_pos (show(j:Int)=(at_:Int) by omega),if_pos ⟨hn,.inl he⟩]
     ·rw[if_neg (show ¬(j:Int)=(at_:Int) by omega)];by_cases hp2:(at_:Int)<par[j]
      ·rw[if_pos hp2,if_pos ⟨hn,.inr hp2⟩]
      ·rw[if_neg hp2,if_neg (fun g=>g.2.elim he hp2)]
    ·rw[if_neg hn,if_neg (fun g=>hn g.1)]
   ·rw[if_neg h8,if_neg h8]
  ·rw[if_neg (show ¬(j:Int)≤(at_:Int) by omega),if_neg h1]
theorem uA {n:Nat}(a:Ac)(M:Me)(par:List Int)(at_:Nat)(s:List Nat)(ha:a.fields.length<1501)(hm:M.params.length<1501)(hp:par.length=M.nodes.length)(hN:M.nodes.length<1501):evFn lay0.tab (n+1502) 61 [.p a.e,.p M.e,.p (.slice 1 (par.map iE)),.p (.int .i64 at_),.p (.str s)] []=some (.p (HP (tw a M par at_ s)),[]):=by
 apply GP (n+1501) a.r M.r (par.map iE) at_ s;unfold oT tw;have g3:=fun k0 k1 W hk=>I7 (m:=n+1501) M par at_ s hp hN k0 k1 W hk M.nodes.length (n+1501) 0 M.params.length (by omega) (by omega) (by omega)
 refine(aT a.fields (fun q i=>il _ (n+1501) _ _ q (par.map iE,(at_:Int),s,i,a.r,M.r)) (fun f=>aN f.name s) (fun j=>some (.p (HP (a.fields[j]?.map fun f=>⟨f.kind,j,true⟩)),[])) (some (.p (HP (match M.params.findIdx? fun f=>aN f.name s with|some j=>M.params[j]?.map fun f=>⟨f.kind,j,false⟩|none=>IU M par at_ s)),[])) (fun q i hi=>?_) (fun q=>?_) (by omega)).trans ?_
 ·rw[pq];simp only[eY,show a.r.Fields=a.fields.map Fe.e from rfl,lβ,cG (show((i:Int)<(a.fields.length:Int)) by omega),aO,aE,aM,aI hi,bf,dFe,wS (show i<bT by unfold bT;omega),show ∀m:Fe,m.r.Name=m.name from fun _=>rfl,show ∀m:Fe,m.r.Kind=m.kind from fun _=>rfl,lγ hi,Option.map_some,HP];exact cU _ _ _
 ·rw[pq];simp only[eY,show a.r.Fields=a.fields.map Fe.e from rfl,lβ,bX,aR];refine(aT M.params (fun q i=>im _ (n+1501) _ _ q (par.map iE,(at_:Int),s,i,M.r)) (fun f=>aN f.name s) (fun j=>some (.p (HP (M.params[j]?.map fun f=>⟨f.kind,j,false⟩)),[])) (some (.p (HP (IU M par at_ s)),[])) (fun q i hi=>?_) (fun q=>?_) (by omega)).trans ?_
  ·rw[pt];simp only[eZ,show M.r.Params=M.params.map Pa.e from rfl,lβ,cG (show((i:Int)<(M.params.length:Int)) by omega),aO,aE,aM,aI hi,bf,dPa,wS (show i<bT by unfold bT;omega),show ∀m:Pa,m.r.Name=m.name from fun _=>rfl,show ∀m:Pa,m.r.Kind=m.kind from fun _=>rfl,lγ hi,Option.map_some,HP];exact cU _ _ _
  ·rw[pt];simp only[eZ,show M.r.Params=M.params.map Pa.e from rfl,lβ,bX,aR];refine(g3 _ _ (some (.p (HP none),[])) (fun _=>rfl)).trans ?_;rw[List.drop_zero];unfold IU;cases hr:F2 par at_ s M.nodes 0 M.params.length with
   |none=>rfl
   |some v=>
    have:v.field=false:=by
     clear g3;revert hr;generalize 0=i0;generalize M.params.length=s0;generalize M.nodes=l0;intro hr;induction l0 generalizing i0 s0 with
     |nil=>simp[F2]at hr
     |cons x r ih=>
      simp only[F2]at hr;split at hr
      ·split at hr
       ·split at hr
        ·simp only[lα]at hr;rw[←hr]
        ·exact ih _ _ hr
       ·exact ih _ _ hr
      ·cases hr
    simp only[HP,this]
  ·cases M.params.findIdx? fun f=>aN f.name s<;>rfl
 ·cases a.fields.findIdx? fun f=>aN f.name s<;>rfl
end
end Go.Ab
end
section
namespace Go.Ab
open Go
set_option maxRecDepth 100000
noncomputable section
structure RS where
 p:List Ac
 a:Ac
 m:Me
 par:List Int
 ks:List Int
def RS.k (c:RS):wK:=⟨c.p.map Ac.e,c.a.name,c.a.fields.map Fe.e,c.a.methods.map Me.e,c.m.name,c.m.params.map Pa.e,c.m.result,c.m.nodes.map No.e,c.par.map iE,c.ks.length,c.ks.map iE⟩
def RS.put (c:RS)(i:Nat)(k:Int):RS:={c with ks:=c.ks.set i k}
theorem dRS (c:RS)(K:wK→R):xA c.k.hp K=K c.k:=rfl
def iG (ks:List Int)(l:List Int):List Int:=l.map fun k=>ks.getD k.toNat 0
theorem OM {m:Nat}(c:RS)(l:List Int)(hk:fp c.ks.length l)(hl:l.length<1501)(k0:jh→R):∀(e q j:Nat) (acc:List Int),j+e=l.length→e<q→acc.length=j→
  L_r19kinds_1 (br lay0.tab m) m k0 q (l.map iE,acc.length,(j:Int),c.k,acc.map iE)=k0 (l.map iE,l.length,(l.length:Int),c.k,(acc++iG c.ks (l.drop j)).map iE)
 |0,q+1,j,acc,h,_,ha=>by
  obtain rfl:j=l.length:=by omega
  rw[uL];simp only[jD,lβ,bX,aR,List.drop_length,iG,List.map_nil,mε,ha]
 |e+1,q+1,j,acc,h,hq,ha=>by
  have hj:j<l.length:=by omega
  obtain⟨g1,g2⟩:=hk l[j] (lι _);have g3:l[j].toNat<c.ks.length:=by omega
  rw[uL,lξ hj];have hb:cR (acc.length+([Da.int .i64 (c.ks.getD l[j].toNat 0)]:LD).length) 8=true:=Ad (by simp;omega);have hm:acc.map iE++[Da.int .i64 (c.ks.getD l[j].toNat 0)]=(acc++[c.ks.getD l[j].toNat 0]).map iE:=by rw[List.map_append];rfl
  have ih:=OM (m:=m) c l hk hl k0 e q (j+1) (acc++[c.ks.getD l[j].toNat 0]) (by omega) (by omega) (by simp;omega);simp only[jD,show c.k.ln=c.ks.length from rfl,show c.k.ks=c.ks.map iE from rfl,lβ,cG (show((j:Int)<(l.length:Int)) by omega),aO,aE,aM,aI hj,bf,dI,bE,g1,decide_true,cG g2,Nat.zero_add,np c.ks g3,Nat.beq_refl,hb,hm,wS (show j<bT by unfold bT;omega)];refine ih.trans ?_;simp only[iG,List.map_cons,mκ,List.singleton_append]
theorem QP {n:Nat}(c:RS)(l:List Int)(hk:fp c.ks.length l)(hl:l.length<1501):evFn lay0.tab (n+1502) 129 [.box 0 0,.p (.slice 1 (l.map iE))] c.k.hp=some (.p (.slice 1 ((iG c.ks l).map iE)),c.k.hp):=by
 apply Rp (n+1501) c.k (l.map iE);unfold vI;refine(OM (m:=n+1501) c l hk hl _ l.length (n+1501) 0 [] (by omega) (by omega) rfl).trans ?_;simp only[List.drop_zero,List.nil_append];rw[mθ (by simp[iG])]
def Sb (ns:List No)(b:Int):List Int:=((jY ns b).map fun y=>y.kids).getD []
def Yn (ns:List No)(l:List Int)(i:Nat):Bool:=match l.findIdx? fun k=>av k i with
 |some (j+1)=>(match l[j]? with|some k=>jM ns k|none=>false)
 |_=>false
def uo (ns:List No)(par:List Int)(i:Nat):Bool:=let b:=par.getD i 0
 if b<0 then false else if cE ns b=18 then Yn ns (Sb ns b) i else false
structure GL (c:RS):Prop where
 nl:c.m.nodes.length<1501
 kl:∀x∈c.m.nodes,x.kids.length<1501
 kd:∀(i:Nat) x,c.m.nodes[i]?=some x→fp i x.kids
 pl:c.par.length=c.m.nodes.length
 pr:∀b∈c.par,b<(c.m.nodes.length:Int)
 sl:c.ks.length=c.m.nodes.length
 tl:c.p.length<1501
 ml:∀a∈c.p,a.methods.length<1501
 mp:∀a∈c.p,∀m∈a.methods,m.params.length<1501
 fl:c.a.fields.length<1501
 ql:c.m.params.length<1501
theorem GL.put {c:RS}(h:GL c)(i:Nat)(k:Int):GL (c.put i k):=⟨h.nl,h.kl,h.kd,h.pl,h.pr,by show(c.ks.set i k).length=c.m.nodes.length;simp[h.sl],h.tl,h.ml,h.mp,h.fl,h.ql⟩
theorem TJ {n:Nat}{c:RS}(h:GL c){i:Int}(h0:0≤i)(hi:i<(c.m.nodes.length:Int)):evFn lay0.tab (n+1501) 133 [.p (.slice 8 (c.m.nodes.map No.e)),.p (.int .i64 i)] []=some (.p (.bool (jM c.m.nodes i)),[]):=by
 obtain⟨j,rfl⟩:∃j:Nat,i=(j:Int):=⟨i.toNat,by omega⟩
 have:=h.nl;exact HS (n:=n) c.m.nodes h.kd h.kl 1501 j (by omega) (by omega)
theorem QO {n:Nat}(c:RS)(h:GL c)(i:Nat)(hi:i<c.m.nodes.length):evFn lay0.tab (n+1503) 134 [.box 0 0,.p (.int .i64 i)] c.k.hp=some (.p (.bool (uo c.m.nodes c.par i)),c.k.hp):=by
 apply Rn (n+1502) c.k i;have hip:i<c.par.length:=by rw[h.pl];exact hi
 have hpg:c.par.getD i 0=c.par[i]:=by simp[lρ,lγ hip]
 have hb:=h.pr c.par[i] (lι _);unfold vH uo;simp only[show c.k.ps=c.par.map iE from rfl,show c.k.ns=c.m.nodes.map No.e from rfl,aE,aM,aI hip,bf,dI,hpg];by_cases h0:c.par[i]<0
 ·rw[cG h0,if_pos h0];rfl
 ·rw[u0 h0,if_neg h0,aR];obtain⟨b,hb2⟩:∃b:Nat,c.par[i]=(b:Int):=⟨c.par[i].toNat,by omega⟩
  rw[hb2]at hb ⊢
  have hbl:b<c.m.nodes.length:=by omega
  have hx:c.m.nodes[b]?=some c.m.nodes[b]:=lγ hbl;have hkd:=h.kd b _ hx;have hkl:=h.kl _ (lι hbl);simp only[aI hbl,bf,vZ,uc,qb,cE,Sb,Option.map_some,Option.getD_some];have e1:=ab (U3 (n:=n) c.m.nodes[b].kids i hkl);simp only[e1,ba,bz,aC,co,aW];by_cases ho:c.m.nodes[b].op=18
  ·rw[if_pos ho,if_pos ho];unfold Yn;simp only[aW];cases hf:c.m.nodes[b].kids.findIdx? fun k=>decide (k=(i:Int))with
   |none=>rfl
   |some j=>
    have hj:=(lτ.1 hf).1;cases j with
    |zero=>rfl
    |succ j=>
     have hj2:j<c.m.nodes[b].kids.length:=by omega
     obtain⟨g1,g2⟩:=hkd c.m.nodes[b].kids[j] (lι _);have e2:=ab (TJ (n:=n+1) h g1 (by omega));have hw:ag .i64 (((j+1:Nat):Int) - 1)=(j:Int):=by rw[ig (by omega) (by omega)];omega
     simp only[jR,cG (show(0:Int)<((j+1:Nat):Int) by omega),aO,hw,aE,aM,aI hj2,bf,dI,e2,ba,aD,aC,lγ hj2];cases jM c.m.nodes c.m.nodes[b].kids[j]<;>rfl
  ·rw[if_neg ho,if_neg ho]
def Out (c:RS)(i:Nat)(o:Option Int)(r:R):Prop:=∃e:Int,r=some (.p (.int .i64 e),(match o with|some k=>c.put i k|none=>c).k.hp)∧(e=0↔o.isSome=true)
theorem Out.err {c:RS}{i:Nat}{e:Int}(he:e≠0):Out c i none (some (.p (.int .i64 e),c.k.hp)):=⟨e,rfl,by simp[he]⟩
def xm (c:RS)(i:Nat)(o:Option Int):Option Int:=if uo c.m.nodes c.par i=true then none else o
theorem NO (c:RS)(i:Nat):xm c i none=none:=by unfold xm;split<;>rfl
theorem Out.fin {n:Nat}{c:RS}(h:GL c){i:Nat}(hi:i<c.m.nodes.length)(k:Int):Out c i (xm c i (some k)) (bo (br lay0.tab (n+1503)) i c.k k):=by
 unfold bo xm;have his:i<c.ks.length:=by rw[h.sl];exact hi
 simp only[ab (QO (n:=n) c h i hi),ba,aD,dRS];cases uo c.m.nodes c.par i with
 |true=>exact Out.err (by decide)
 |false=>
  have hp:(c.put i k).k.hp=({c.k with ks:=c.k.ks.set i (iE k)}:wK).hp:=by
   unfold RS.put RS.k;simp only[List.length_set,List.map_set]
  simp only[aR,bE,show(0:Int)≤(i:Int) by omega,decide_true,aO,show c.k.ln=c.ks.length from rfl,cG (show((i:Int)<(c.ks.length:Int)) by omega),Nat.zero_add,Int.toNat_natCast,show c.k.ks=c.ks.map iE from rfl,np c.ks his,bf,af2,ahb];refine⟨0,?_,by simp⟩
  simp only[Bool.false_eq_true,if_false];rw[hp];rfl
def unK (s:List Nat):Int:=bif aN s [33]then 2 else 1
def Tv (p:List Ac)(x:No)(kk:List Int):Option Int:=match j2 p x.name x.v.s with
 |none=>none
 |some m=>if kk.headD 0=3∧kk.tail=m.params.map (·.kind)then some m.result else none
def Sj (c:RS)(i:Nat)(x:No)(kk:List Int):Bool:=!nI (c.m.nodes.take i) x.name&&(!(c.a.fields.any fun f=>aN f.name x.name)&&(!(c.m.params.any fun f=>aN f.name x.name)&&(decide (nJ (c.m.nodes.take i)+1+c.m.params.length≤8)&&decide (kk.headD 0=x.v.k))))
def cp (c:RS)(i:Nat)(x:No):Option Int:=
 if x.op=1 then some x.v.k else if x.op=3 then some 3 else
 if x.op=2 then(tw c.a c.m c.par i x.name).map (·.kind)else
 if x.op=4 then(if(iG c.ks x.kids).headD 0=unK x.name then some (unK x.name)else none)else
 if x.op=5 then(if rBi x.name ((iG c.ks x.kids).getD 0 0) ((iG c.ks x.kids).getD 1 0)<0 then none else some (rBi x.name ((iG c.ks x.kids).getD 0 0) ((iG c.ks x.kids).getD 1 0)))else
 if x.op=6 then(if PO x.name (iG c.ks x.kids)<0 then none else some (PO x.name (iG c.ks x.kids)))else
 if x.op=7 then Tv c.p x (iG c.ks x.kids)else
 if x.op=8 then(if Sj c i x (iG c.ks x.kids)=true then some 0 else none)else
 if x.op=9 then(match tw c.a c.m c.par i x.name with|some v=>if(iG c.ks x.kids).headD 0=v.kind then some 0 else none|none=>none)else
 if x.op=11 then(if(iG c.ks x.kids).headD 0=2 then some 0 else none)else
 if x.op=12 then(if(iG c.ks x.kids).headD 0=2 then some 0 else none)else
 if x.op=13 then(match iG c.ks x.kids with|[]=>if c.m.result=0 then some 0 else none|k::_=>if c.m.result≠0∧k=c.m.result then some 0 else none)else
 if x.op=15 then(if iG c.ks x.kids=[3,1]then some 0 else none)else
 if x.op=16 then(if iG c.ks x.kids=[3,1,1]then some 0 else none)else
 if x.op=17 then(if(iG c.ks x.kids).headD 0=3 then some 0 else none)else
 if x.op=18 then(if i+1=c.m.nodes.length∧c.m.result≠0∧jM c.m.nodes i=false then none else some 0)else some 0
theorem Ut (c:RS)(i:Nat)(x:No)(h:x.op=1):cp c i x=some x.v.k:=by simp only[cp,h,Int.reduceEq,if_true,if_false]
theorem Uv (c:RS)(i:Nat)(x:No)(h:x.op=3):cp c i x=some 3:=by simp only[cp,h,Int.reduceEq,if_true,if_false]
theorem Uu (c:RS)(i:Nat)(x:No)(h:x.op=2):cp c i x=(tw c.a c.m c.par i x.name).map (·.kind):=by simp only[cp,h,Int.reduceEq,if_true,if_false]
theorem Uw (c:RS)(i:Nat)(x:No)(h:x.op=4):cp c i x=(if(iG c.ks x.kids).headD 0=unK x.name then some (unK x.name)else none):=by simp only[cp,h,Int.reduceEq,if_true,if_false]
theorem Ux (c:RS)(i:Nat)(x:No)(h:x.op=5):cp c i x=(if rBi x.name ((iG c.ks x.kids).getD 0 0) ((iG c.ks x.kids).getD 1 0)<0 then none else some (rBi x.name ((iG c.ks x.kids).getD 0 0) ((iG c.ks x.kids).getD 1 0))):=by simp only[cp,h,Int.reduceEq,if_true,if_false]
theorem Uy (c:RS)(i:Nat)(x:No)(h:x.op=6):cp c i x=(if PO x.name (iG c.ks x.kids)<0 then none else some (PO x.name (iG c.ks x.kids))):=by simp only[cp,h,Int.reduceEq,if_true,if_false]
theorem Uz (c:RS)(i:Nat)(x:No)(h:x.op=7):cp c i x=Tv c.p x (iG c.ks x.kids):=by simp only[cp,h,Int.reduceEq,if_true,if_false]
theorem LW (c:RS)(i:Nat)(x:No)(h:x.op=8):cp c i x=(if Sj c i x (iG c.ks x.kids)=true then some 0 else none):=by simp only[cp,h,Int.reduceEq,if_true,if_false]
theorem UA (c:RS)(i:Nat)(x:No)(h:x.op=9):cp c i x=(match tw c.a c.m c.par i x.name with|some v=>if(iG c.ks x.kids).headD 0=v.kind then some 0 else none|none=>none):=by simp only[cp,h,Int.reduceEq,if_true,if_false]
theorem PP (c:RS)(i:Nat)(x:No)(h:x.op=11):cp c i x=(if(iG c.ks x.kids).headD 0=2 then some 0 else none):=by simp only[cp,h,Int.reduceEq,if_true,if_false]
theorem PQ (c:RS)(i:Nat)(x:No)(h:x.op=12):cp c i x=(if(iG c.ks x.kids).headD 0=2 then some 0 else none):=by simp only[cp,h,Int.reduceEq,if_true,if_false]
theorem PS (c:RS)(i:Nat)(x:No)(h:x.op=13):cp c i x=(match iG c.ks x.kids with|[]=>if c.m.result=0 then some 0 else none|k::_=>if c.m.result≠0∧k=c.m.result then some 0 else none):=by simp only[cp,h,Int.reduceEq,if_true,if_false]
theorem PT (c:RS)(i:Nat)(x:No)(h:x.op=15):cp c i x=(if iG c.ks x.kids=[3,1]then some 0 else none):=by simp only[cp,h,Int.reduceEq,if_true,if_false]
theorem PU (c:RS)(i:Nat)(x:No)(h:x.op=16):cp c i x=(if iG c.ks x.kids=[3,1,1]then some 0 else none):=by simp only[cp,h,Int.reduceEq,if_true,if_false]
theorem PV (c:RS)(i:Nat)(x:No)(h:x.op=17):cp c i x=(if(iG c.ks x.kids).headD 0=3 then some 0 else none):=by simp only[cp,h,Int.reduceEq,if_true,if_false]
theorem PW (c:RS)(i:Nat)(x:No)(h:x.op=18):cp c i x=(if i+1=c.m.nodes.length∧c.m.result≠0∧jM c.m.nodes i=false then none else some 0):=by simp only[cp,h,Int.reduceEq,if_true,if_false]
theorem aeA {ns:List No}{x:No}(h:ci ns x=true):(x.op=4∨x.op=8∨x.op=9∨x.op=17→x.kids.length=1)∧(x.op=5∨x.op=15→x.kids.length=2)∧(x.op=16→x.kids.length=3)∧(x.op=7∨x.op=11∨x.op=12→1≤x.kids.length)∧(x.op=13→x.kids.length≤1):=by
 refine⟨fun ho=>?_,fun ho=>?_,fun ho=>?_,fun ho=>?_,fun ho=>?_⟩
 ·rcases ho with o|o|o|o<;>(unfold ci at h;rw[o]at h;simp only[aW,ej,OG,bE,lδ,lη,Int.reduceEq,decide_false,decide_true,cond_true,cond_false]at h;omega)
 ·rcases ho with o|o<;>(unfold ci at h;rw[o]at h;simp only[aW,ej,OG,bE,lδ,lη,Int.reduceEq,decide_false,decide_true,cond_true,cond_false]at h;omega)
 ·unfold ci at h;rw[ho]at h;simp only[aW,ej,OG,bE,lδ,lη,Int.reduceEq,decide_false,decide_true,cond_true,cond_false]at h;omega
 ·rcases ho with o|o|o<;>(unfold ci at h;rw[o]at h;simp only[aW,ej,OG,bE,lδ,lη,Int.reduceEq,decide_false,decide_true,cond_true,cond_false]at h;omega)
 ·unfold ci at h;rw[ho]at h;simp only[aW,ej,OG,bE,lδ,lη,Int.reduceEq,decide_false,decide_true,cond_true,cond_false]at h;omega
theorem aeJ (o:Option Vr)(K:bJ→R):bZ (HP o) K=K ⟨(o.map (·.kind)).getD 0,(o.map (·.slot)).getD 0,(o.map (·.field)).getD false,o.isSome⟩:=by cases o<;>rfl
section
variable (c:RS)
theorem ahU:c.k.ts=c.p.map Ac.e:=rfl
theorem ZB:c.k.tn=c.a.name:=rfl
theorem Zz:c.k.tf=c.a.fields.map Fe.e:=rfl
theorem ZA:c.k.tm=c.a.methods.map Me.e:=rfl
theorem Zx:c.k.mn=c.m.name:=rfl
theorem Zy:c.k.mp=c.m.params.map Pa.e:=rfl
theorem N6:c.k.mr=c.m.result:=rfl
theorem Tz:c.k.ns=c.m.nodes.map No.e:=rfl
theorem aeF:c.k.ps=c.par.map iE:=rfl
end
theorem len1 {α:Type}{l:List α}(h:l.length=1):∃a,l=[a]:=by
 match l,h with
 |[a],_=>exact⟨a,rfl⟩
theorem aim {α:Type}{l:List α}(h:l.length=2):∃a b,l=[a,b]:=by
 match l,h with
 |[a,b],_=>exact⟨a,b,rfl⟩
theorem ajo {α:Type}{l:List α}(h:l.length=3):∃a b c,l=[a,b,c]:=by
 match l,h with
 |[a,b,c],_=>exact⟨a,b,c,rfl⟩
theorem agJ {α:Type}{l:List α}(h:1≤l.length):∃a r,l=a::r:=by
 match l,h with
 |a::r,_=>exact⟨a,r,rfl⟩
theorem H3 {m:Nat}(i:Int)(l:List Int)(res:Int)(u:wK)(M:Me)(hl:l.length=M.params.length+1)(hp:M.params.length<1501)(k0:iK→R)(W:Bool→R)(hk:∀b j,k0 (i,l.map iE,res,b,j,u,M.r)=W b):∀(e q j:Nat),j+e=M.params.length→e<q→
  L_r19node_1 (br lay0.tab m) m k0 q (i,l.map iE,res,false,(j:Int),u,M.r)=W (!decide (l.drop (j+1)=(M.params.drop j).map (·.kind)))
 |0,q+1,j,h,_=>by
  obtain rfl:j=M.params.length:=by omega
  rw[ma];have:l.drop (M.params.length+1)=[]:=by rw[←hl,List.drop_length]
  simp only[fP,show M.r.Params=M.params.map Pa.e from rfl,lβ,bX,aR,List.drop_length,this,List.map_nil,decide_true,Bool.not_true,hk]
 |e+1,q+1,j,h,hq=>by
  have hj:j<M.params.length:=by omega
  have hjl:j+1<l.length:=by omega
  rw[ma,lξ hj,lξ hjl];have ih:=H3 (m:=m) i l res u M hl hp k0 W hk e q (j+1) (by omega) (by omega);have hstop:∀j:Int,L_r19node_1 (br lay0.tab m) m k0 q (i,l.map iE,res,true,j,u,M.r)=W true:=by
   intro j;match q,hq with
   |q+1,_=>
    rw[ma];simp only[fP,aO,hk];cases aX j (M.r.Params.length:Int)<;>rfl
  simp only[fP,show M.r.Params=M.params.map Pa.e from rfl,lβ,cG (show((j:Int)<(M.params.length:Int)) by omega),aO,aR,wS (show j<bT by unfold bT;omega),aE,aM,aI hjl,aI hj,bf,dI,dPa,show ∀m:Pa,m.r.Kind=m.kind from fun _=>rfl,ih,hstop,List.map_cons,lμ,co,aW];by_cases he:l[j+1]=M.params[j].kind
  ·rw[if_pos he];simp only[he,true_and]
  ·rw[if_neg he];simp only[he,false_and,decide_false,Bool.not_false]
theorem xN {α:Type}(f:α→List Nat)(s:List Nat):(fun a=>aN (f a) s)=fun a=>decide (f a=s):=by funext a;rw[de]
theorem U2 {n:Nat}(c:RS)(h:GL c)(i:Nat)(x:No)(hx:c.m.nodes[i]?=some x)(hv:ci c.m.nodes x=true):Out c i (xm c i (cp c i x)) (evFn lay0.tab (n+1505) 95 [.box 0 0,.p (.int .i64 i)] c.k.hp):=by
 have hi:i<c.m.nodes.length:=by
  rcases lπ i c.m.nodes.length with h1|h1
  ·exact h1
  ·rw[lθ h1]at hx;cases hx
 have hxi:c.m.nodes[i]=x:=by rw[lγ hi]at hx;exact Option.some.inj hx
 have hkd:=h.kd i x hx;have hkl:=h.kl x (mι hx);obtain⟨a1,a2,a3,a4,a5⟩:=aeA hv;have hkk:(iG c.ks x.kids).length=x.kids.length:=by simp[iG]
 suffices hs:Out c i (xm c i (cp c i x)) (tQ (br lay0.tab (n+1504)) (n+1504) c.k i) by
  obtain⟨e,h1,h2⟩:=hs;exact⟨e,Vt (n+1504) c.k i _ h1,h2⟩
 have e1:=ab (QP (n:=n+2) c x.kids (fun k hk=>by obtain⟨g1,g2⟩:=hkd k hk;exact⟨g1,by have:=h.sl;omega⟩) hkl);have fin:=fun k=>Out.fin (n:=n+1) h hi k
 have err:∀e:Int,e≠0→Out c i (xm c i none) (some (.p (.int .i64 e),c.k.hp)):=fun e he=>by rw[NO];exact Out.err he
 unfold tQ;simp only[show c.k.ns=c.m.nodes.map No.e from rfl,aE,aM,aI hi,hxi,bf,vZ,uc,Gy,IH,Lm,qb,e1,ba,TC,dRS];have eT:∀{k:Int},x.op=k→av x.op k=true:=fun h=>by rw[aW];exact mη h
 have eF:∀{k:Int},¬x.op=k→av x.op k=false:=fun h=>by rw[aW];exact mβ h
 by_cases o1:x.op=1
 ·rw[eT o1,aO];have hR:=Ut c i x o1;rw[hR];exact fin _
 rw[eF o1,aR];by_cases o3:x.op=3
 ·rw[eT o3,aO];have hR:=Uv c i x o3;rw[hR];exact fin _
 rw[eF o3,aR];by_cases o2:x.op=2
 ·rw[eT o2,aO];have hR:=Uu c i x o2;rw[hR];have e2:=ab (uA (n:=n+2) c.a c.m c.par i x.name h.fl h.ql h.pl h.nl);simp only[Ac.e,ae.e,Ac.r,Me.e,ah.e,Me.r]at e2;simp only[ZB,Zz,ZA,Zx,Zy,N6,Tz,aeF,e2,ba,aC,aeJ];cases tw c.a c.m c.par i x.name with
  |none=>exact err 14 (by decide)
  |some v=>exact fin _
 rw[eF o2,aR];by_cases o4:x.op=4
 ·rw[eT o4,aO];have hR:=Uw c i x o4;rw[hR];obtain⟨k,hk⟩:=len1 (hkk.trans (a1 (.inl o4)));simp only[hk,aE,aM,cM,bf,dI,aW,co,List.headD_cons,unK];cases aN x.name [33]
  ·simp only[aR,cond_false];by_cases hc:k=1
   ·rw[if_pos hc,if_pos hc];exact fin _
   ·rw[if_neg hc,if_neg hc];exact err 15 (by decide)
  ·simp only[aO,cond_true];by_cases hc:k=2
   ·rw[if_pos hc,if_pos hc];exact fin _
   ·rw[if_neg hc,if_neg hc];exact err 15 (by decide)
 rw[eF o4,aR];by_cases o5:x.op=5
 ·rw[eT o5,aO];have hR:=Ux c i x o5;rw[hR];obtain⟨k,k',hk⟩:=aim (hkk.trans (a2 (.inl o5)));have e2:=ab (MP (n:=n+1503) x.name k k');simp only[hk,aE,aM,cM,show jY [k,k'] 1=some k' from rfl,bf,dI,e2,ba,bz,aC,List.getD_cons_zero,List.getD_cons_succ];by_cases hc:rBi x.name k k'<0
  ·rw[cG hc,if_pos hc];exact err 15 (by decide)
  ·rw[u0 hc,if_neg hc];exact fin _
 rw[eF o5,aR];by_cases o6:x.op=6
 ·rw[eT o6,aO];have hR:=Uy c i x o6;rw[hR];have e2:=ab (Je (n:=n) x.name (iG c.ks x.kids) (by rw[hkk];exact hkl));simp only[e2,ba,bz,aC,aW,ep];by_cases hc:PO x.name (iG c.ks x.kids)<0
  ·rw[cG hc,if_pos hc,aO];split
   ·exact err 14 (by decide)
   ·exact err 15 (by decide)
  ·rw[u0 hc,if_neg hc,aR,if_neg (by omega)];exact fin _
 rw[eF o6,aR];by_cases o7:x.op=7
 ·rw[eT o7,aO];have hR:=Uz c i x o7;rw[hR];obtain⟨k,r,hk⟩:=agJ (l:=iG c.ks x.kids) (by rw[hkk];exact a4 (.inl o7));have e2:=ab (rJ (n:=n+2) c.p x.name h.tl);simp only[ahU,e2,ba,bz,aC,Tv,j2,hk,List.headD_cons,List.tail_cons];rw[xN (fun a:Ac=>a.name),←jP];cases hf:c.p.findIdx? fun a=>decide (a.name=x.name)with
  |none=>exact err 14 (by decide)
  |some j=>
   have hj:=(lτ.1 hf).1;have e3:=ab (uz (n:=n+2) c.p[j] x.v.s (h.ml _ (lι _)));simp only[Ac.e,ae.e,Ac.r]at e3;simp only[jR,u0 (show ¬(j:Int)<0 by omega),aR,aE,aM,aI hj,bf,GZ,Ac.r,ae.e,e3,ba,bz,aC,lγ hj];rw[xN (fun a:Me=>a.name),←jP];cases hg:c.p[j].methods.findIdx? fun a=>decide (a.name=x.v.s)with
   |none=>exact err 14 (by decide)
   |some w=>
    have hw:=(lτ.1 hg).1;simp only[u0 (show ¬(w:Int)<0 by omega),aR,aI hw,bf,QB,lγ hw,cM,dI,aW,co,sC];have hmp:=h.mp _ (lι hj) _ (lι hw);have hkl2:(k::r).length<1501:=by rw[←hk,hkk];exact hkl
    generalize hM:c.p[j].methods[w]=M at hmp ⊢
    have stop:∀(k0:iK→R) (W:R),(∀j,k0 ((i:Int),(k::r).map iE,M.r.Result,true,j,c.k,M.r)=W)→L_r19node_1 (br lay0.tab (n+1504)) (n+1504) k0 (n+1504) ((i:Int),(k::r).map iE,M.r.Result,true,0,c.k,M.r)=W:=fun k0 W hk=>by
     rw[ma];simp only[fP,aO,hk];cases aX 0 (M.r.Params.length:Int)<;>rfl
    by_cases h3:k=3
    ·rw[if_pos h3];have hw2:ag .i64 ((((k::r).map iE).length:Int) - 1)=(r.length:Int):=by
      rw[lβ,List.length_cons,ig (by simp at hkl2;omega) (by simp at hkl2;omega)];omega
     rw[hw2,show(M.r.Params.length:Int)=(M.params.length:Int)from congrArg Int.ofNat (lβ ..)];by_cases hl:(r.length:Int)=(M.params.length:Int)
     ·rw[if_pos hl];have ha:=H3 (m:=n+1504) (i:Int) (k::r) M.r.Result c.k M (by simp;omega) hmp (fun(i110,l111,i112,b113,i114,u115,u116)=>iL b113 (some (.p (.int .i64 15),u115.hp)) (bo (br lay0.tab (n+1504)) i110 u115 i112)) (fun b=>iL b (some (.p (.int .i64 15),c.k.hp)) (bo (br lay0.tab (n+1504)) (i:Int) c.k M.r.Result)) (fun _ _=>rfl) M.params.length (n+1504) 0 (by omega) (by omega)
      simp only[Nat.zero_add,List.drop_succ_cons,List.drop_zero]at ha;refine Eq.mpr (congrArg (Out c i _) ha) ?_;by_cases hr:r=M.params.map (·.kind)
      ·rw[if_pos ⟨h3,hr⟩,mη hr];exact fin _
      ·rw[if_neg (fun g=>hr g.2),mβ hr];exact err 15 (by decide)
     ·rw[if_neg hl,if_neg (fun g=>hl (by rw[g.2];simp))];refine Eq.mpr (congrArg (Out c i _) (stop _ (some (.p (.int .i64 15),c.k.hp)) fun _=>rfl)) ?_
      exact err 15 (by decide)
    ·rw[if_neg h3,if_neg (fun g=>h3 g.1)];refine Eq.mpr (congrArg (Out c i _) (stop _ (some (.p (.int .i64 15),c.k.hp)) fun _=>rfl)) ?_
     exact err 15 (by decide)
 rw[eF o7,aR];by_cases o8:x.op=8
 ·rw[eT o8,aO];have hR:=LW c i x o8;rw[hR];obtain⟨k,hk⟩:=len1 (hkk.trans (a1 (.inr (.inl o8))));have e2:=ab (U1 (n:=n+2) c.m.nodes i x.name (by omega) h.nl);have e3:=ab (DD (n:=n+2) c.a x.name h.fl);have e4:=ab (DE (n:=n+2) c.m c.m.params.length x.name (Nat.le_refl _) h.ql);simp only[Ac.e,ae.e,Ac.r,Me.e,ah.e,Me.r]at e3 e4;rw[List.take_length]at e4;have hln:nJ (c.m.nodes.take i)≤i:=by
   unfold nJ;have:=List.length_filter_le (fun x:No=>decide (x.op=8)) (c.m.nodes.take i);simp at this ⊢
   omega
  have hnl:=h.nl;have hql:=h.ql;have hw:ag .i64 (ag .i64 ((nJ (c.m.nodes.take i):Int)+1)+(c.m.params.length:Int))=((nJ (c.m.nodes.take i)+1+c.m.params.length:Nat):Int):=by
   rw[wS (by unfold bT;omega),ig (by omega) (by omega)];omega
  simp only[ZB,Zz,ZA,Zx,Zy,N6,Tz,lβ,e2,e3,e4,hw,bH,ec,ba,bz,aD,aC,hk,aE,aM,cM,bf,dI,aW,co,Sj,List.headD_cons];cases nI (c.m.nodes.take i) x.name
  ·cases c.a.fields.any fun f=>aN f.name x.name
   ·cases c.m.params.any fun f=>aN f.name x.name
    ·by_cases h9:nJ (c.m.nodes.take i)+1+c.m.params.length≤8
     ·rw[u0 (by omega)];by_cases hc:k=x.v.k
      ·simp only[aR,h9,hc,decide_true,Bool.not_false,Bool.and_self,if_true];exact fin _
      ·simp only[aR,h9,hc,decide_true,decide_false,Bool.not_false,Bool.and_false,Bool.false_eq_true,if_false];exact err 15 (by decide)
     ·rw[cG (by omega)];simp only[aR,aO,h9,decide_false,Bool.not_false,Bool.false_and,Bool.and_false,Bool.false_eq_true,if_false];exact err 5 (by decide)
    ·simp only[aR,aO,Bool.not_true,Bool.not_false,Bool.false_and,Bool.and_false,Bool.false_eq_true,if_false];exact err 7 (by decide)
   ·simp only[aR,aO,Bool.not_true,Bool.not_false,Bool.false_and,Bool.and_false,Bool.false_eq_true,if_false];exact err 7 (by decide)
  ·simp only[aR,aO,Bool.not_true,Bool.not_false,Bool.false_and,Bool.and_false,Bool.false_eq_true,if_false];exact err 7 (by decide)
 rw[eF o8,aR];by_cases o9:x.op=9
 ·rw[eT o9,aO];have hR:=UA c i x o9;rw[hR];obtain⟨k,hk⟩:=len1 (hkk.trans (a1 (.inr (.inr (.inl o9)))));have e2:=ab (uA (n:=n+2) c.a c.m c.par i x.name h.fl h.ql h.pl h.nl);simp only[Ac.e,ae.e,Ac.r,Me.e,ah.e,Me.r]at e2;simp only[ZB,Zz,ZA,Zx,Zy,N6,Tz,aeF,e2,ba,aC,aeJ,hk,aE,aM,cM,bf,dI,aW,co,List.headD_cons];cases tw c.a c.m c.par i x.name with
  |none=>exact err 14 (by decide)
  |some v=>
   simp only[Option.isSome_some,aO,Option.map_some,Option.getD_some];by_cases hc:k=v.kind
   ·rw[if_pos hc,if_pos hc];exact fin _
   ·rw[if_neg hc,if_neg hc];exact err 15 (by decide)
 rw[eF o9,aR];by_cases o11:x.op=11
 ·rw[eT o11,aO];have hR:=PP c i x o11;rw[hR];obtain⟨k,r,hk⟩:=agJ (l:=iG c.ks x.kids) (by rw[hkk];exact a4 (.inr (.inl o11)));simp only[hk,aE,aM,cM,bf,dI,aW,co,List.headD_cons];by_cases hc:k=2
  ·rw[if_pos hc,if_pos hc];exact fin _
  ·rw[if_neg hc,if_neg hc];exact err 15 (by decide)
 rw[eF o11,aR];by_cases o12:x.op=12
 ·rw[eT o12,aO];have hR:=PQ c i x o12;rw[hR];obtain⟨k,r,hk⟩:=agJ (l:=iG c.ks x.kids) (by rw[hkk];exact a4 (.inr (.inr o12)));simp only[hk,aE,aM,cM,bf,dI,aW,co,List.headD_cons];by_cases hc:k=2
  ·rw[if_pos hc,if_pos hc];exact fin _
  ·rw[if_neg hc,if_neg hc];exact err 15 (by decide)
 rw[eF o12,aR];by_cases o13:x.op=13
 ·rw[eT o13,aO];have hR:=PS c i x o13;rw[hR];simp only[N6,sA,lβ,aW,co,ep];match hk:iG c.ks x.kids,hkk with
  |[],_=>
   simp only[List.length_nil,Int.cast_ofNat_Int,Int.reduceEq,if_false];by_cases hc:c.m.result=0
   ·rw[if_pos hc,if_pos hc];exact fin _
   ·rw[if_neg hc,if_neg hc];exact err 15 (by decide)
  |[k],_=>
   simp only[List.length_cons,List.length_nil,Nat.zero_add,Int.cast_ofNat_Int,if_true,aE,aM,cM,bf,dI];by_cases hc:c.m.result=0
   ·rw[if_pos hc,if_neg (fun g=>g.1 hc)];exact err 15 (by decide)
   ·rw[if_neg hc];by_cases hc2:k=c.m.result
    ·rw[if_pos hc2,if_pos ⟨hc,hc2⟩];exact fin _
    ·rw[if_neg hc2,if_neg (fun g=>hc2 g.2)];exact err 15 (by decide)
  |_::_::_,hkk=>
   have:=a5 o13;simp at hkk;omega
 rw[eF o13,aR];by_cases o15:x.op=15
 ·rw[eT o15,aO];have hR:=PT c i x o15;rw[hR];obtain⟨k,k',hk⟩:=aim (hkk.trans (a2 (.inr o15)));simp only[hk,aE,aM,cM,show jY [k,k'] 1=some k' from rfl,bf,dI,aW,co,lμ,and_true];by_cases hc:k=3
  ·rw[if_pos hc];by_cases hc2:k'=1
   ·rw[if_pos hc2,if_pos ⟨hc,hc2⟩];exact fin _
   ·rw[if_neg hc2,if_neg (fun g=>hc2 g.2)];exact err 15 (by decide)
  ·rw[if_neg hc,if_neg (fun g=>hc g.1)];exact err 15 (by decide)
 rw[eF o15,aR];by_cases o16:x.op=16
 ·rw[eT o16,aO];have hR:=PU c i x o16;rw[hR];obtain⟨k,k',k2,hk⟩:=ajo (hkk.trans (a3 o16));simp only[hk,aE,aM,cM,show jY [k,k',k2] 1=some k' from rfl,show jY [k,k',k2] 2=some k2 from rfl,bf,dI,aW,co,lμ,and_true];by_cases hc:k=3
  ·rw[if_pos hc];by_cases hc2:k'=1
   ·rw[if_pos hc2];by_cases hc3:k2=1
    ·rw[if_pos hc3,if_pos ⟨hc,hc2,hc3⟩];exact fin _
    ·rw[if_neg hc3,if_neg (fun g=>hc3 g.2.2)];exact err 15 (by decide)
   ·rw[if_neg hc2,if_neg (fun g=>hc2 g.2.1)];exact err 15 (by decide)
  ·rw[if_neg hc,if_neg (fun g=>hc g.1)];exact err 15 (by decide)
 rw[eF o16,aR];by_cases o17:x.op=17
 ·rw[eT o17,aO];have hR:=PV c i x o17;rw[hR];obtain⟨k,hk⟩:=len1 (hkk.trans (a1 (.inr (.inr (.inr o17)))));simp only[hk,aE,aM,cM,bf,dI,aW,co,List.headD_cons];by_cases hc:k=3
  ·rw[if_pos hc,if_pos hc];exact fin _
  ·rw[if_neg hc,if_neg hc];exact err 15 (by decide)
 rw[eF o17,aR];by_cases o18:x.op=18
 ·rw[eT o18,aO];have hR:=PW c i x o18;rw[hR];have e2:=ab (TJ (n:=n+3) h (i:=(i:Int)) (by omega) (by omega));have hnl:=h.nl;have hw:ag .i64 (((c.m.nodes.length:Nat):Int) - 1)=(c.m.nodes.length:Int) - 1:=ig (by omega) (by omega);simp only[Tz,N6,lβ,hw,e2,ba,aD,aC,aW,co,ep];by_cases hc:i+1=c.m.nodes.length
  ·rw[if_pos (show(i:Int)=(c.m.nodes.length:Int) - 1 by omega)];by_cases hr:c.m.result=0
   ·rw[if_pos hr,if_neg (fun g=>g.2.1 hr)];exact fin _
   ·rw[if_neg hr];cases he:jM c.m.nodes (i:Int)with
    |true=>simp only[aO,Bool.true_eq_false,and_false,if_false];exact fin _
    |false=>rw[if_pos ⟨hc,hr,rfl⟩];exact err 15 (by decide)
  ·rw[if_neg (show ¬(i:Int)=(c.m.nodes.length:Int) - 1 by omega),if_neg (fun g=>hc g.1)];exact fin _
 rw[eF o18,aR];have hR:cp c i x=some 0:=by simp only[cp,o1,o2,o3,o4,o5,o6,o7,o8,o9,o11,o12,o13,o15,o16,o17,o18,if_false]
 rw[hR];exact fin _
end
end Go.Ab
end
section
namespace Go.Ab
open Go
set_option maxRecDepth 100000
noncomputable section
def yE (c:RS)(i:Nat):Option RS:=match c.m.nodes[i]? with|none=>none|some x=>(xm c i (cp c i x)).map (c.put i)
def iW:Nat→Nat→RS→Option RS
 |0,_,c=>some c
 |n+1,i,c=>match yE c i with|none=>none|some c'=>iW n (i+1) c'
def RS.ini (p:List Ac)(a:Ac)(m:Me):RS:=⟨p,a,m,yA m.nodes,List.replicate m.nodes.length 0⟩
def yz (a:Ac)(m:Me):Bool:=(List.range m.params.length).all fun i=>match m.params[i]? with
 |some x=>!((a.fields.any fun f=>aN f.name x.name)||((m.params.take i).any fun f=>aN f.name x.name))
 |none=>true
def AP (p:List Ac)(a:Ac)(k:Nat):Option (List Int):=match a.methods[k]? with
 |none=>none
 |some m=>if((a.methods.take k).any fun f=>aN f.name m.name)=true then none else if yz a m=true then(iW m.nodes.length 0 (RS.ini p a m)).map (·.ks)else none
def uU (a:Ac):Bool:=(List.range a.fields.length).all fun i=>match a.fields[i]? with
 |some x=>!((a.fields.take i).any fun f=>aN f.name x.name)
 |none=>true
def vU (f:Nat→Bool):Nat→Nat→Bool
 |0,_=>true
 |e+1,j=>f j&&vU f e (j+1)
def Xg (p:List Ac)(t:Nat):Bool:=match p[t]? with
 |none=>true
 |some a=>decide (p.findIdx? (fun b=>aN b.name a.name)=some t)&&(uU a&&vU (fun k=>(AP p a k).isSome) a.methods.length 0)
def pH (p:List Ac):Bool:=cB p&&vU (Xg p) p.length 0
theorem Qj {N:Nat}{i:Int}(hi:i<(N:Int)):∀(l out:List Int),(∀b∈out,b<(N:Int))→∀b∈Gk i l out,b<(N:Int)
 |[],out,h=>h
 |k::r,out,h=>Qj hi r _ fun b hb=>by
  rcases List.mem_or_eq_of_mem_set hb with hb|rfl
  ·exact h b hb
  ·exact hi
theorem PI {N:Nat}:∀(l:List No) (i:Nat) (out:List Int),i+l.length≤N→(∀b∈out,b<(N:Int))→∀b∈AX l i out,b<(N:Int)
 |[],_,_,_,h=>h
 |x::r,i,out,hl,h=>PI r (i+1) _ (by simp at hl;omega) (Qj (by simp at hl;omega) _ _ h)
theorem H9 {ns:List No}(h:fY ns=true):ea ns 0 []=true:=by
 unfold fY at h;rw[lδ]at h;exact h.1
theorem H8 {ns:List No}(h:fY ns=true):∀x∈ns,ci ns x=true:=by
 unfold fY at h;simp only[lδ,mζ]at h;exact fun x hx=>(h.2.2.1 x hx).1
theorem Ka {ns:List No}(h:fY ns=true):∀(i:Nat) x,ns[i]?=some x→fp i x.kids:=fun i x hx=>by
 have:=Dn ns 0 [] (fun k h=>by cases h) (H9 h) i x hx;rw[Nat.zero_add]at this;exact this
theorem wG {p:List Ac}(hv:cB p=true){a:Ac}(ha:a∈p){m:Me}(hm:m∈a.methods):fY m.nodes=true∧pM m=true:=by
 unfold cB at hv;rw[lδ]at hv;obtain⟨t,ht⟩:=Option.isSome_iff_exists.1 hv.2;exact(SZ p 0 t ht a ha).2 m hm
theorem aav {p:List Ac}(hp:zw p)(hv:cB p=true){a:Ac}(ha:a∈p){m:Me}(hm:m∈a.methods):GL (RS.ini p a m):=by
 have hb:=(wG hv ha hm).1;have hz:=(hp.ac a ha).mm m hm;refine⟨hz.ns,fun x hx=>(hz.nx x hx).ks,Ka hb,?_,?_,?_,hp.ty,fun a ha=>(hp.ac a ha).me,fun a ha m hm=>((hp.ac a ha).mm m hm).ps,(hp.ac a ha).fl,hz.ps⟩
 ·show(yA m.nodes).length=m.nodes.length;unfold yA;rw[FU];simp
 ·show ∀b∈yA m.nodes,b<(m.nodes.length:Int);exact PI m.nodes 0 _ (by omega) fun b hb=>by rw[List.eq_of_mem_replicate hb];omega
 ·show(List.replicate m.nodes.length (0:Int)).length=_;simp[RS.ini]
theorem Qi:∀(n i:Nat) (c c':RS),iW n i c=some c'→c'.m=c.m∧c'.p=c.p∧c'.a=c.a∧c'.par=c.par
 |0,_,c,c',h=>by simp only[iW,lα]at h;subst h;exact⟨rfl,rfl,rfl,rfl⟩
 |n+1,i,c,c',h=>by
  simp only[iW]at h;split at h
  ·cases h
  ·rename_i c1 h1;obtain⟨g1,g2,g3,g4⟩:=Qi n (i+1) c1 c' h;unfold yE at h1;split at h1
   ·cases h1
   ·rw[mχ]at h1;obtain⟨k,_,rfl⟩:=h1;exact⟨g1,g2,g3,g4⟩
def MetOut (o:Option (List Int))(r:R):Prop:=∃(pl:bq) (e:Int) (l:List Int),r=some (.tup [.p pl.e,.p (.int .i64 e),.p (.slice 1 (l.map iE))],[])∧(match o with|some ks=>e=0∧l=ks|none=>e≠0)
theorem Pf {n:Nat}(M:Me)(hb:∀x∈M.nodes,ci M.nodes x=true)(t k:Int)(k0:Int×bq×ah×wK→R)(k1:gS→R)(hk0:∀e pl u,e≠0→MetOut none (k0 (e,pl,M.r,u)))(hk1:∀i (c:RS),c.ks.length=M.nodes.length→MetOut (some c.ks) (k1 (t,k,i,M.r,c.k))):∀(e q i:Nat) (c:RS),c.m=M→GL c→i+e=M.nodes.length→e<q→
  MetOut ((iW e i c).map (·.ks)) (gT (br lay0.tab (n+1505)) (n+1505) k0 k1 q (t,k,(i:Int),M.r,c.k))
 |0,q+1,i,c,hm,h,hi,_=>by
  obtain rfl:i=M.nodes.length:=by omega
  rw[sr];simp only[hH,show M.r.Nodes=M.nodes.map No.e from rfl,lβ,bX,aR,iW,Option.map_some];exact hk1 _ c (by rw[h.sl,hm])
 |e+1,q+1,i,c,hm,h,hi,hq=>by
  have hil:i<M.nodes.length:=by omega
  have hx:c.m.nodes[i]?=some M.nodes[i]:=by rw[hm];exact lγ hil
  obtain⟨er,h1,h2⟩:=U2 (n:=n) c h i _ hx (by rw[hm];exact hb _ (lι _));rw[sr];simp only[hH,show M.r.Nodes=M.nodes.map No.e from rfl,lβ,cG (show((i:Int)<(M.nodes.length:Int)) by omega),aO,ab h1,ba,bz,iW,yE,hx];cases ho:xm c i (cp c i M.nodes[i])with
  |none=>
   rw[ho]at h2;have he:er≠0:=fun g=>by have:=h2.1 g;simp at this
   simp only[dRS,aW,he,decide_false,Bool.not_false,aO,Option.map_none];exact hk0 _ _ _ he
  |some kd=>
   rw[ho]at h2;have he:er=0:=h2.2 rfl;simp only[dRS,aW,he,decide_true,Bool.not_true,aR,Option.map_some,wS (show i<bT by unfold bT;have:=h.nl;rw[hm]at this;omega)];exact Pf M hb t k k0 k1 hk0 hk1 e q (i+1) (c.put i kd) hm (h.put i kd) (by omega) (by omega)
theorem ajp {m:Nat}(p:List Ac)(t k:Nat)(ht:t<p.length)(hk:k≤p[t].methods.length)(hz:p[t].methods.length<1501)(M:Me)(k0:aa×Int×Int×ah→R)(k1:gQ→R){q:Nat}(hq:1501≤q):
  L_r19method_1 (br lay0.tab m) m k0 k1 q ((t:Int),(k:Int),0,⟨p.map Ac.e⟩,M.r)=if((p[t].methods.take k).any fun f=>aN f.name M.name)=true then k0 (⟨p.map Ac.e⟩,t,k,M.r)else k1 (t,k,k,⟨p.map Ac.e⟩,M.r):=by
 have htk:(p[t].methods.take k).length=k:=by simp;omega
 refine(aT (p[t].methods.take k) (fun q i=>L_r19method_1 _ m _ _ q ((t:Int),(k:Int),i,⟨p.map Ac.e⟩,M.r)) (fun f=>aN f.name M.name) (fun i=>k0 (⟨p.map Ac.e⟩,t,k,M.r)) (k1 (t,k,k,⟨p.map Ac.e⟩,M.r)) (fun q i hi=>?_) (fun q=>?_) (by omega)).trans ?_
 ·rw[so];have hi2:i<p[t].methods.length:=by omega
  simp only[gZ,cG (show((i:Int)<(k:Int)) by omega),aO,aE,aM,aI ht,bf,GZ,show p[t].r.Methods=p[t].methods.map Me.e from rfl,aI hi2,QB,wS (show i<bT by unfold bT;omega),show ∀m:Me,m.r.Name=m.name from fun _=>rfl,qι];exact cU _ _ _
 ·rw[htk,so];simp only[gZ,bX,aR]
 ·rw[←List.findIdx?_isSome];cases(p[t].methods.take k).findIdx? fun f=>aN f.name M.name<;>rfl
theorem ajq {n:Nat}(p:List Ac)(hp:zw p)(t:Nat)(k:Int)(ht:t<p.length)(M:Me)(hM:M.params.length<1501)(k0:aa×Int×Int×ah→R)(k1:gR→R):
  L_r19method_2 (br lay0.tab (n+1505)) (n+1505) k0 k1 (n+1505) ((t:Int),k,0,⟨p.map Ac.e⟩,M.r)=if yz p[t] M=true then k1 (t,k,M.params.length,⟨p.map Ac.e⟩,M.r)else k0 (⟨p.map Ac.e⟩,t,k,M.r):=by
 have hz:=hp.ac p[t] (lι _);refine(aT (List.range M.params.length) (fun q i=>L_r19method_2 _ (n+1505) _ _ q ((t:Int),k,i,⟨p.map Ac.e⟩,M.r)) (fun i=>!(match M.params[i]? with
 |some x=>!((p[t].fields.any fun f=>aN f.name x.name)||((M.params.take i).any fun f=>aN f.name x.name))
 |none=>true)) (fun i=>k0 (⟨p.map Ac.e⟩,t,k,M.r)) (k1 (t,k,M.params.length,⟨p.map Ac.e⟩,M.r)) (fun q i hi=>?_) (fun q=>?_) (by simp;omega)).trans ?_
 ·rw[sq];have hi2:i<M.params.length:=by simpa using hi
  have e1:=ab (DD (n:=n+3) p[t] M.params[i].name hz.fl);have e2:=ab (DE (n:=n+3) M i M.params[i].name (by omega) hM);simp only[Ac.e,Me.e]at e1 e2;simp only[hD,show M.r.Params=M.params.map Pa.e from rfl,lβ,cG (show((i:Int)<(M.params.length:Int)) by omega),aO,aE,aM,aI ht,bf,GZ,aI hi2,dPa,e1,e2,ba,aD,aC,wS (show i<bT by unfold bT;omega),show ∀m:Pa,m.r.Name=m.name from fun _=>rfl,List.getElem_range,lγ hi2];cases(p[t].fields.any fun f=>aN f.name M.params[i].name)<;>cases((M.params.take i).any fun f=>aN f.name M.params[i].name)<;>rfl
 ·rw[List.length_range,sq];simp only[hD,show M.r.Params=M.params.map Pa.e from rfl,lβ,bX,aR]
 ·unfold yz;rw[dQ];split
  ·rename_i h;rw[h];rfl
  ·rename_i h;rw[h];rfl
theorem MQ {n:Nat}(p:List Ac)(hp:zw p)(hv:cB p=true)(t k:Nat)(ht:t<p.length)(hk:k<p[t].methods.length):MetOut (AP p p[t] k) (evFn lay0.tab (n+1506) 57 [.p (.agg [.slice 3 (p.map Ac.e)]),.p (.int .i64 t),.p (.int .i64 k)] []):=by
 suffices hs:MetOut (AP p p[t] k) (nN (br lay0.tab (n+1505)) (n+1505) ⟨p.map Ac.e⟩ t k) by
  obtain⟨pl,e,l,h1,h2⟩:=hs;exact⟨pl,e,l,Ny (n+1505) ⟨p.map Ac.e⟩ t k _ h1,h2⟩
 have ha:p[t]∈p:=lι _;have hz:=hp.ac _ ha;have hm:p[t].methods[k]∈p[t].methods:=lι _;have hzm:=hz.mm _ hm;have hin:=aav hp hv ha hm;have hbo:=(wG hv ha hm).1;have hkd:∀x∈p[t].methods[k].nodes,fp p[t].methods[k].nodes.length x.kids:=fun x hx=>by
  obtain⟨i,hi,rfl⟩:=qε hx;intro y hy;obtain⟨g1,g2⟩:=Ka hbo i _ (lγ hi) y hy;exact⟨g1,by omega⟩
 have e1:=ab (Jd (n:=n+2) p[t].methods[k].nodes hzm.ns hkd (fun x hx=>(hzm.nx x hx).ks));have hns:=hzm.ns;unfold nN AP;simp only[aE,aM,aI ht,bf,GZ,show p[t].r.Methods=p[t].methods.map Me.e from rfl,aI hk,QB,lγ hk,ajp p t k ht (by omega) hz.me _ _ _ (show 1501≤n+1505 by omega),ajq p hp t _ ht _ hzm.ps];have hdup:∀(i:Int),MetOut none (some (.tup [.p (.agg [.int .i64 t,.int .i64 k,.int .i64 i]),.p (.int .i64 7),.p (.slice 1 [])],[])):=fun i=>⟨⟨t,k,i⟩,7,[],rfl,by decide⟩
 split
 ·exact hdup _
 ·split
  ·simp only[aE,aM,aI ht,bf,GZ,show p[t].methods[k].r.Nodes=p[t].methods[k].nodes.map No.e from rfl,e1,ba,TC,aC,lβ,bE,show(0:Int)≤(p[t].methods[k].nodes.length:Int) by omega,Int.le_refl,decide_true,Bool.true_and,Int.toNat_natCast,show Nat.ble (p[t].methods[k].nodes.length*8) 281474976710656=true by rw[Nat.ble_eq];omega,show(p[t].methods[k].nodes.length:Int)≤9223372036854775807 by omega,aO];have g:=Pf (n:=n) p[t].methods[k] (H8 hbo) (t:Int) (k:Int) (fun(i67,u68,u69,u70)=>some ((.tup [(.p u68.e),(.p (.int .i64 i67)),(.p (.slice 1 []))]),[])) (fun(i71,i72,i73,u74,u75)=>some ((.tup [(.p (.agg [(.int .i64 0),(.int .i64 0),(.int .i64 0)])),(.p (.int .i64 0)),(.p (.slice 1 (List.take u75.ln (List.drop 0 u75.ks))))]),[])) (fun e pl u he=>⟨pl,e,[],rfl,he⟩) (fun i c hl=>⟨⟨0,0,0⟩,0,c.ks,by
    show some (D.tup [_,_,.p (.slice 1 (List.take c.ks.length (List.drop 0 (c.ks.map iE))))],[])=_;rw[List.drop_zero,mθ (by simp)];rfl,rfl,rfl⟩) p[t].methods[k].nodes.length (n+1505) 0 (RS.ini p p[t] p[t].methods[k]) rfl hin (by omega) (by omega)
   have hck:(wK.mk (p.map Ac.e) p[t].r.Name p[t].r.Fields p[t].r.Methods p[t].methods[k].r.Name p[t].methods[k].r.Params p[t].methods[k].r.Result (p[t].methods[k].nodes.map No.e) ((yA p[t].methods[k].nodes).map iE) p[t].methods[k].nodes.length (List.replicate p[t].methods[k].nodes.length (Da.int .i64 0)))=(RS.ini p p[t] p[t].methods[k]).k:=by
    unfold RS.ini RS.k;simp only[List.length_replicate,List.map_replicate];rfl
   refine Eq.mpr (congrArg (MetOut _) (congrArg (fun u=>gT (br lay0.tab (n+1505)) (n+1505) _ _ (n+1505) ((t:Int),(k:Int),0,p[t].methods[k].r,u)) hck)) ?_;exact g
  ·exact hdup _
theorem aiZ {m:Nat}(a:Ac)(hz:a.fields.length<1501)(t:Int)(i:Nat)(hi:i<a.fields.length)(P:aa)(k0:jf→R)(k1:aa×Int×ae→R){q:Nat}(hq:1501≤q):
  L_r19Check_3 (br lay0.tab m) m k0 k1 q (t,(i:Int),0,P,a.r)=if((a.fields.take i).any fun f=>aN f.name a.fields[i].name)=true then k1 (P,t,a.r)else k0 (t,i,i,P,a.r):=by
 have htk:(a.fields.take i).length=i:=by simp;omega
 refine(aT (a.fields.take i) (fun q j=>L_r19Check_3 _ m _ _ q (t,(i:Int),j,P,a.r)) (fun f=>aN f.name a.fields[i].name) (fun _=>k1 (P,t,a.r)) (k0 (t,i,i,P,a.r)) (fun q j hj=>?_) (fun q=>?_) (by omega)).trans ?_
 ·rw[uI];have hj2:j<a.fields.length:=by omega
  simp only[jA,cG (show((j:Int)<(i:Int)) by omega),aO,aE,aM,bf,show a.r.Fields=a.fields.map Fe.e from rfl,aI hj2,aI hi,dFe,wS (show j<bT by unfold bT;omega),show ∀m:Fe,m.r.Name=m.name from fun _=>rfl,qι];exact cU _ _ _
 ·rw[htk,uI];simp only[jA,bX,aR]
 ·rw[←List.findIdx?_isSome];cases(a.fields.take i).findIdx? fun f=>aN f.name a.fields[i].name<;>rfl
theorem aiY {m:Nat}(hm:1501≤m)(a:Ac)(hz:a.fields.length<1501)(t:Int)(P:aa)(k0:je→R)(k1:aa×Int×ae→R){q:Nat}(hq:1501≤q):
  L_r19Check_2 (br lay0.tab m) m k0 k1 q (t,0,P,a.r)=if uU a=true then k0 (t,a.fields.length,P,a.r)else k1 (P,t,a.r):=by
 refine(aT (List.range a.fields.length) (fun q i=>L_r19Check_2 _ m _ _ q (t,i,P,a.r)) (fun i=>!(match a.fields[i]? with
 |some x=>!((a.fields.take i).any fun f=>aN f.name x.name)
 |none=>true)) (fun i=>k1 (P,t,a.r)) (k0 (t,a.fields.length,P,a.r)) (fun q i hi=>?_) (fun q=>?_) (by simp;omega)).trans ?_
 ·rw[uH];have hi2:i<a.fields.length:=by simpa using hi
  simp only[jz,show a.r.Fields=a.fields.map Fe.e from rfl,lβ,cG (show((i:Int)<(a.fields.length:Int)) by omega),aO,aiZ a hz t i hi2 P _ _ hm,wS (show i<bT by unfold bT;omega),List.getElem_range,lγ hi2];cases((a.fields.take i).any fun f=>aN f.name a.fields[i].name)<;>rfl
 ·rw[List.length_range,uH];simp only[jz,show a.r.Fields=a.fields.map Fe.e from rfl,lβ,bX,aR]
 ·unfold uU;rw[dQ];split
  ·rename_i h;rw[h];rfl
  ·rename_i h;rw[h];rfl
theorem ahZ (u:bq)(K:bq→R):cf u.e K=K u:=rfl
theorem ahT {n:Nat}(p:List Ac)(hp:zw p)(hv:cB p=true)(t:Nat)(ht:t<p.length)(k0:Int×aa×bq×ae×bq→R)(k1:jg→R):∀(e q j:Nat),j+e=p[t].methods.length→e<q→
  (vU (fun k=>(AP p p[t] k).isSome) e j=true∧jn (br lay0.tab (n+1506)) (n+1506) k0 k1 q ((t:Int),(j:Int),⟨p.map Ac.e⟩,p[t].r)=k1 (t,p[t].methods.length,⟨p.map Ac.e⟩,p[t].r))∨
  (vU (fun k=>(AP p p[t] k).isSome) e j=false∧∃er pl,er≠0∧jn (br lay0.tab (n+1506)) (n+1506) k0 k1 q ((t:Int),(j:Int),⟨p.map Ac.e⟩,p[t].r)=k0 (er,⟨p.map Ac.e⟩,pl,p[t].r,pl))
 |0,q+1,j,h,_=>by
  obtain rfl:j=p[t].methods.length:=by omega
  left;refine⟨rfl,?_⟩;rw[uJ];simp only[jB,show p[t].r.Methods=p[t].methods.map Me.e from rfl,lβ,bX,aR]
 |e+1,q+1,j,h,hq=>by
  have hj:j<p[t].methods.length:=by omega
  obtain⟨pl,er,l,h1,h2⟩:=MQ (n:=n) p hp hv t j ht hj;rw[uJ];simp only[jB,show p[t].r.Methods=p[t].methods.map Me.e from rfl,lβ,cG (show((j:Int)<(p[t].methods.length:Int)) by omega),aO,show(D.p (aa.e ⟨p.map Ac.e⟩))= .p (.agg [.slice 3 (p.map Ac.e)])from rfl,ab h1,bH,ec,ba,bz,TC,aC,ahZ,aW,vU,wS (show j<bT by unfold bT;have:=(hp.ac p[t] (lι _)).me;omega)];cases hm:AP p p[t] j with
  |none=>
   rw[hm]at h2;right;refine⟨rfl,er,pl,h2,?_⟩;simp only[mβ (show ¬er=0 from h2),Bool.not_false,aO]
  |some ks=>
   rw[hm]at h2;simp only[mη h2.1,Bool.not_true,aR,Option.isSome_some,Bool.true_and];exact ahT p hp hv t ht k0 k1 e q (j+1) (by omega) (by omega)
def ChkOut (b:Bool)(r:R):Prop:=∃(pl:bq) (e:Int),r=some (.tup [.p pl.e,.p (.int .i64 e)],[])∧(e=0↔b=true)
theorem ahS {n:Nat}(p:List Ac)(hp:zw p)(hv:cB p=true)(k0:aa×Int×ae→R)(k1:Int×aa×bq×ae×bq→R)(k2:jd→R)(hk0:∀x,ChkOut false (k0 x))(hk1:∀e P pl a,e≠0→ChkOut false (k1 (e,P,pl,a,pl)))(hk2:∀x,ChkOut true (k2 x)):∀(e q t:Nat),t+e=p.length→e<q→
  ChkOut (vU (Xg p) e t) (jl (br lay0.tab (n+1506)) (n+1506) k0 k1 k2 q ((t:Int),⟨p.map Ac.e⟩))
 |0,q+1,t,h,_=>by
  obtain rfl:t=p.length:=by omega
  rw[uG];simp only[jy,lβ,bX,aR,vU];exact hk2 _
 |e+1,q+1,t,h,hq=>by
  have ht:t<p.length:=by omega
  have hz:=hp.ac p[t] (lι _);have e1:=ab (rJ (n:=n+4) p p[t].name hp.ty);have hmz:=hz.me;rw[uG];simp only[jy,lβ,cG (show((t:Int)<(p.length:Int)) by omega),aO,aE,aM,aI ht,bf,GZ,show p[t].r.Name=p[t].name from rfl,show(D.p (aa.e ⟨p.map Ac.e⟩))= .p (.agg [.slice 3 (p.map Ac.e)])from rfl,e1,ba,bz,aC,vU,Xg,lγ ht,aiY (show 1501≤n+1506 by omega) p[t] hz.fl _ _ _ _ (show 1501≤n+1506 by omega),wS (show t<bT by unfold bT;have:=hp.ty;omega)];have key:av (jR (p.findIdx? fun b=>aN b.name p[t].name)) (t:Int)=decide (p.findIdx? (fun b=>aN b.name p[t].name)=some t):=by
   rw[aW];cases p.findIdx? fun b=>aN b.name p[t].name with
   |none=>simp[jR]
   |some j=>
    simp only[jR,lα];exact decide_eq_decide.2 ⟨by omega,by omega⟩
  rw[key];cases decide (p.findIdx? (fun b=>aN b.name p[t].name)=some t)with
  |false=>exact hk0 _
  |true=>
   simp only[Bool.not_true,aR,Bool.true_and];cases uU p[t]with
   |false=>exact hk0 _
   |true=>
    simp only[if_true,Bool.true_and];rcases ahT (n:=n) p hp hv t ht (fun(i57,u58,u59,u60,u61)=>k1 (i57,u58,u59,u60,u61)) (fun(i62,i63,u64,u65)=>jl (br lay0.tab (n+1506)) (n+1506) k0 k1 k2 q (ag .i64 (i62+1),u64)) p[t].methods.length (n+1506) 0 (by omega) (by omega)with⟨g1,g2⟩|⟨g1,er,pl,g2,g3⟩
    ·rw[g1,Bool.true_and];refine Eq.mpr (congrArg (ChkOut _) g2) ?_;simp only[wS (show t<bT by unfold bT;have:=hp.ty;omega)];exact ahS p hp hv k0 k1 k2 hk0 hk1 hk2 e q (t+1) (by omega) (by omega)
    ·rw[g1,Bool.false_and];exact Eq.mpr (congrArg (ChkOut _) g3) (hk1 _ _ _ _ g2)
theorem Ns.mono {n m:Nat}{a:Ac}(h:Ns n a)(hn:n≤m):Ns m a where
 nm:=by have:=h.nm;omega
 ff f hf:=by have:=h.ff f hf;omega
 mm x hx:=⟨by have:=(h.mm x hx).1;omega,fun p hp=>by have:=(h.mm x hx).2.1 p hp;omega,fun y hy=>⟨by have:=((h.mm x hx).2.2 y hy).nm;omega,by have:=((h.mm x hx).2.2 y hy).vs;omega⟩⟩
theorem DC {n:Nat}(p:List Ac)(hp:zw p)(hs:∀a∈p,Ns n a)(hb:n≤200000000000000000000):ChkOut (pH p) (evFn lay0.tab (n+4509) 78 [pD p] []):=by
 suffices hS:ChkOut (pH p) (j5 (br lay0.tab (n+4508)) (n+4508) ⟨p.map Ac.e⟩) by
  obtain⟨pl,e,h1,h2⟩:=hS;exact⟨pl,e,Ew (n+4508) ⟨p.map Ac.e⟩ _ h1,h2⟩
 have e1:=ab (DA (n:=n+1) p (fun a ha=>(hp.ac a ha).b) (by omega) (by omega) (fun a ha=>(hs a ha).mono (by omega)) (by omega));unfold j5 pH;rw[show(D.p (aa.e ⟨p.map Ac.e⟩))= .p (.agg [.slice 3 (p.map Ac.e)])from rfl,e1];simp only[ba,aD,aC];cases hv:cB p with
 |false=>exact⟨⟨0,0,0⟩,1,rfl,by simp⟩
 |true=>
  simp only[aO,Bool.true_and];have hpt:=hp.ty;exact ahS (n:=n+3002) p hp hv _ _ _ (fun x=>⟨⟨x.2.1,-1,-1⟩,7,rfl,by decide⟩) (fun e P pl a he=>⟨pl,e,rfl,by simp[he]⟩) (fun x=>⟨⟨0,0,0⟩,0,rfl,by decide⟩) p.length (n+4508) 0 (by omega) (by omega)
end
end Go.Ab
end
section
namespace Go.Ab
open Go
set_option maxRecDepth 100000
noncomputable section
def uZ (l:List No):List Pa:=(l.filter fun x=>decide (x.op=8)).map fun x=>⟨x.name,x.v.k⟩
end
end Go.Ab
end
section
namespace Go.Ab
open Go
noncomputable section
theorem Mq (i:Int)(k:Nat):∀(l out:List Int),(∀y∈l,0≤y)→k<out.length→(Gk i l out)[k]?=if(k:Int)∈l then some i else out[k]?
 |[],out,_,_=>by simp[Gk]
 |y::r,out,h,hk=>by
  rw[Gk,Mq i k r _ (fun z hz=>h z (lψ _ hz)) (by simpa using hk),List.getElem?_set];have h0:=h y (lυ ..);by_cases h1:(k:Int)∈r
  ·rw[if_pos h1,if_pos (lψ _ h1)]
  ·rw[if_neg h1];by_cases h2:y.toNat=k
   ·rw[if_pos h2,if_pos (by omega),if_pos (mγ.2 (.inl (by omega)))]
   ·rw[if_neg h2,if_neg];intro hm;rcases mγ.1 hm with e|e
    ·omega
    ·exact h1 e
theorem LR (k:Nat):∀(l:List No) (i:Nat) (out:List Int),(∀x∈l,∀y∈x.kids,0≤y)→k<out.length→(∀x∈l,(k:Int)∉x.kids)→(AX l i out)[k]?=out[k]?
 |[],_,_,_,_,_=>rfl
 |x::r,i,out,h,hk,hn=>by
  rw[AX,LR k r (i+1) _ (fun z hz=>h z (lψ _ hz)) (by rw[pT];exact hk) (fun z hz=>hn z (lψ _ hz)),Mq _ _ _ _ (h x (lυ ..)) hk,if_neg (hn x (lυ ..))]
theorem Uq (k:Nat):∀(r:List No) (i:Nat) (roots:List Int),ea r i roots=true→k<i→(k:Int)∉roots→∀x∈r,(k:Int)∉x.kids
 |[],_,_,_,_,_,x,hx=>by cases hx
 |y::r,i,roots,h,hk,hn,x,hx=>by
  simp only[ea]at h;split at h
  ·cases h
  ·split at h
   ·rename_i hd;rcases mγ.1 hx with rfl|hx
    ·rw[←hd];exact fun g=>hn (mξ g)
    ·refine Uq k r (i+1) _ h (by omega) (fun g=>?_) x hx;rcases mρ.1 g with g|g
     ·exact hn (mσ g)
     ·simp at g;omega
   ·cases h
theorem PK (k:Nat):∀(r:List No) (i:Nat) (roots:List Int),ea r i roots=true→roots.Nodup→(∀y∈roots,y<(i:Int))→(∀x∈r,∀y∈x.kids,0≤y)→∀(j:Nat) x,r[j]?=some x→(k:Int)∈x.kids→∀out:List Int,k<out.length→(AX r i out)[k]?=some ((i+j:Nat):Int)
 |[],_,_,_,_,_,_,j,x,hx,_,_,_=>by simp at hx
 |y::r,i,roots,h,hnd,hlt,h0,j,x,hx,hk,out,ho=>by
  simp only[ea]at h;split at h
  ·cases h
  ·split at h
   ·rename_i hd;have hnd':=hnd;rw[←List.take_append_drop (roots.length - y.kids.length) roots,List.nodup_append]at hnd';obtain⟨n1,n2,n3⟩:=hnd';cases j with
    |zero=>
     simp only[List.getElem?_cons_zero,lα]at hx;subst hx;have hkd:(k:Int)∈roots.drop (roots.length - y.kids.length):=by rw[hd];exact hk
     have hki:=hlt _ (mξ hkd);rw[AX,LR k r _ _ (fun z hz=>h0 z (lψ _ hz)) (by rw[pT];exact ho) (Uq k r (i+1) _ h (by omega) (fun g=>?_)),Mq _ _ _ _ (h0 _ (lυ ..)) ho,if_pos hk]
     ·rfl
     ·rcases mρ.1 g with g|g
      ·exact n3 _ g _ hkd rfl
      ·simp at g;omega
    |succ j=>
     simp only[List.getElem?_cons_succ]at hx;rw[AX,PK k r (i+1) _ h ?_ ?_ (fun z hz=>h0 z (lψ _ hz)) j x hx hk _ (by rw[pT];exact ho)]
     ·congr 2;omega
     ·rw[List.nodup_append];refine⟨n1,by simp,fun a ha b hb e=>?_⟩
      have:=hlt a (mσ ha);simp at hb;omega
     ·intro z hz;rcases mρ.1 hz with g|g
      ·have:=hlt z (mσ g);omega
      ·simp at g;omega
   ·cases h
mutual
theorem H0.kids {ns:List No}{lo i:Nat}:H0 ns lo i→∀(q:Nat) x,lo≤q→q≤i→ns[q]?=some x→∀k∈x.kids,(lo:Int)≤k∧k<q
 | .mk (x:=y) hy h,q,x,h1,h2,hx,k,hk=>by
  by_cases he:q=i
  ·subst he;rw[hy]at hx;simp only[lα]at hx;subst hx;exact h.all k hk
  ·exact h.kids q x h1 (by omega) hx k hk
theorem Ch.kids {ns:List No}{lo hi:Nat}{l:List Int}:Ch ns lo l hi→∀(q:Nat) x,lo≤q→q<hi→ns[q]?=some x→∀k∈x.kids,(lo:Int)≤k∧k<q
 | .nil,q,x,h1,h2,_,_,_=>by omega
 | .cons (k:=c) h g,q,x,h1,h2,hx,k,hk=>by
  have:=h.le;by_cases he:q≤c
  ·exact h.kids q x h1 he hx k hk
  ·have:=g.kids q x (by omega) h2 hx k hk;omega
theorem Ch.all {ns:List No}{lo hi:Nat}{l:List Int}:Ch ns lo l hi→∀k∈l,(lo:Int)≤k∧k<(hi:Int)
 | .nil,k,hk=>by cases hk
 | .cons (k:=c) h g,k,hk=>by
  have:=h.le;have:=g.le;rcases mγ.1 hk with rfl|hk
  ·omega
  ·have:=g.all k hk;omega
end
mutual
theorem H0.cov {ns:List No}{lo i:Nat}:H0 ns lo i→∀j:Nat,lo≤j→j<i→∃(q:Nat) (x:No),lo≤q∧q≤i∧ns[q]?=some x∧(j:Int)∈x.kids
 | .mk (x:=y) hy h,j,h1,h2=>by
  rcases h.cov j h1 h2 with g|⟨q,x,g1,g2,g3,g4⟩
  ·exact⟨i,y,by omega,Nat.le_refl _,hy,g⟩
  ·exact⟨q,x,g1,by omega,g3,g4⟩
theorem Ch.cov {ns:List No}{lo hi:Nat}{l:List Int}:Ch ns lo l hi→∀j:Nat,lo≤j→j<hi→(j:Int)∈l∨∃(q:Nat) (x:No),lo≤q∧q<hi∧ns[q]?=some x∧(j:Int)∈x.kids
 | .nil,j,h1,h2=>by omega
 | .cons (k:=c) h g,j,h1,h2=>by
  have l1:=h.le;have l2:=g.le;by_cases e1:j=c
  ·subst e1;exact .inl (lυ ..)
  ·by_cases e2:j<c
   ·obtain⟨q,x,g1,g2,g3,g4⟩:=h.cov j h1 e2;exact .inr ⟨q,x,g1,by omega,g3,g4⟩
   ·rcases g.cov j (by omega) h2 with g|⟨q,x,g1,g2,g3,g4⟩
    ·exact .inl (lψ _ g)
    ·exact .inr ⟨q,x,by omega,g2,g3,g4⟩
end
structure Tr (ns:List No)(par:List Int):Prop where
 p1:∀(i:Nat) x,ns[i]?=some x→∀k:Nat,(k:Int)∈x.kids→par.getD k 0=i
 p2:∀j q:Nat,j<ns.length→par.getD j 0=q→∃x,ns[q]?=some x∧(j:Int)∈x.kids
 root:∃k:Nat,H0 ns 0 k∧k+1=ns.length∧par.getD k 0= -1
theorem aiQ {ns:List No}(h:fY ns=true):Tr ns (yA ns):=by
 have hp:=H9 h;have hkd:=Ka h;have h0:∀x∈ns,∀y∈x.kids,0≤y:=fun x hx y hy=>by
  obtain⟨i,hi,rfl⟩:=qε hx;exact(hkd i _ (lγ hi) y hy).1
 obtain⟨k,hs,hk⟩:=(Ts h).tree;have p1:∀(i:Nat) x,ns[i]?=some x→∀k:Nat,(k:Int)∈x.kids→(yA ns).getD k 0=i:=fun i x hx k hk=>by
  have:=Fc hx;have:=hkd i x hx k hk;have e:=PK k ns 0 [] hp (by simp) (fun y hy=>by cases hy) h0 i x hx hk (List.replicate ns.length (-1)) (by simp;omega);unfold yA;rw[lρ,e];simp
 have pr:(yA ns).getD k 0= -1:=by
  have e:=LR k ns 0 (List.replicate ns.length (-1)) h0 (by simp;omega) (fun x hx hm=>by
   obtain⟨i,hi,rfl⟩:=qε hx;have:=hkd i _ (lγ hi) _ hm;omega)
  unfold yA;rw[lρ,e];simp[show k<ns.length by omega]
 refine⟨p1,fun j q hj hq=>?_,k,hs,hk,pr⟩
 have hjk:j≠k:=fun e=>by subst e;rw[pr]at hq;omega
 obtain⟨q',x,_,_,g3,g4⟩:=hs.cov j (Nat.zero_le _) (by omega);have:=p1 q' x g3 j g4;have e:q=q':=by omega
 subst e;exact⟨x,g3,g4⟩
theorem Tr.sub_in {ns:List No}{par:List Int}(t:Tr ns par){lo i:Nat}(h:H0 ns lo i){j:Nat}(h1:lo≤j)(h2:j<i):(j:Int)<par.getD j 0∧par.getD j 0≤(i:Int):=by
 obtain⟨q,x,g1,g2,g3,g4⟩:=h.cov j h1 h2;have:=t.p1 q x g3 j g4;have:=h.kids q x g1 g2 g3 j g4;omega
theorem Tr.sub_out {ns:List No}{par:List Int}(t:Tr ns par){lo i:Nat}(h:H0 ns lo i){j:Nat}(h1:j<lo):par.getD j 0<(lo:Int)∨(i:Int)<par.getD j 0:=by
 by_cases g:par.getD j 0<(lo:Int)
 ·exact .inl g
 by_cases g':(i:Int)<par.getD j 0
 ·exact .inr g'
 exfalso;obtain⟨q,hq⟩:∃q:Nat,par.getD j 0=(q:Int):=⟨(par.getD j 0).toNat,by omega⟩
 have:=h.lt;have:=h.le;obtain⟨x,g3,g4⟩:=t.p2 j q (by omega) hq;have:=h.kids q x (by omega) (by omega) g3 j g4;omega
def QC (P:Nat→Bool)(s:List Nat):List No→Nat→Nat→Option Vr
 |[],_,_=>none
 |x::r,i,sl=>if x.op=8 then(if x.name=s∧P i=true then some ⟨x.v.k,sl,false⟩else QC P s r (i+1) (sl+1))else QC P s r (i+1) sl
theorem t7 {P Q:Nat→Bool}{s:List Nat}:∀(l:List No) (i sl:Nat),(∀(j:Nat) x,l[j]?=some x→x.op=8→x.name=s→P (i+j)=Q (i+j))→QC P s l i sl=QC Q s l i sl
 |[],_,_,_=>rfl
 |x::r,i,sl,h=>by
  have ih:∀sl,QC P s r (i+1) sl=QC Q s r (i+1) sl:=fun sl=>t7 r (i+1) sl fun j y hy h8 hn=>by
   have:=h (j+1) y hy h8 hn;rw[show i+1+j=i+(j+1) by omega];exact this
  simp only[QC,ih];by_cases h8:x.op=8
  ·by_cases hn:x.name=s
   ·have:=h 0 x rfl h8 hn;rw[Nat.add_zero]at this;rw[this]
   ·simp[hn]
  ·simp[h8]
theorem E2 {P:Nat→Bool}{s:List Nat}:∀(l:List No) (i sl:Nat),(∀j,i≤j→P j=false)→QC P s l i sl=none
 |[],_,_,_=>rfl
 |x::r,i,sl,h=>by
  have ih:=fun sl=>E2 (s:=s) r (i+1) sl fun j hj=>h j (by omega)
  simp[QC,ih,h i (Nat.le_refl _)]
theorem Kt {P:Nat→Bool}{s:List Nat}{x:No}(post:List No)(h8:x.op=8)(hn:x.name=s):∀(pre:List No) (i sl:Nat),nI pre s=false→P (i+pre.length)=true→QC P s (pre++x::post) i sl=some ⟨x.v.k,((sl+nJ pre:Nat):Int),false⟩
 |[],i,sl,_,hP=>by
  simp only[List.nil_append,QC,if_pos h8];rw[if_pos ⟨hn,hP⟩];rfl
 |y::pre,i,sl,hl,hP=>by
  unfold nI at hl;rw[List.any_cons,qδ,de]at hl;simp only[List.cons_append,QC];have ih:=fun sl=>Kt post h8 hn pre (i+1) sl hl.2 (by rw[show i+1+pre.length=i+(pre.length+1) by omega];exact hP)
  by_cases h:y.op=8
  ·rw[if_pos h,if_neg (fun g=>by have:=hl.1;rw[mη h,g.1]at this;simp at this),ih];unfold nJ;rw[List.filter_cons,if_pos (by simpa using h)];simp only[List.length_cons];congr 3;omega
  ·rw[if_neg h,ih];unfold nJ;rw[List.filter_cons,if_neg (by simpa using h)]
def sgt (par:List Int)(b i:Nat):Bool:=decide (i<b)&&decide ((b:Int)≤par.getD i 0)
def atP (par:List Int)(b i:Nat):Bool:=decide (i≤b)&&(decide (i=b)||decide ((b:Int)<par.getD i 0))
theorem LV (par:List Int)(b:Nat)(s:List Nat):∀(l:List No) (i sl:Nat),F2 par b s l i sl=QC (atP par b) s l i sl
 |[],_,_=>rfl
 |x::r,i,sl=>by
  simp only[F2,QC,LV par b s r];by_cases h:i≤b
  ·rw[if_pos h];by_cases h8:x.op=8
   ·rw[if_pos h8,if_pos h8];have:(x.name=s∧(i=b∨(b:Int)<par.getD i 0))↔(x.name=s∧atP par b i=true):=by
     unfold atP;simp[h]
    by_cases g:x.name=s∧atP par b i=true
    ·rw[if_pos g,if_pos (this.2 g)]
    ·rw[if_neg g,if_neg (fun e=>g (this.1 e))]
   ·rw[if_neg h8,if_neg h8]
  ·rw[if_neg h];have hf:∀j,i≤j→atP par b j=false:=fun j hj=>by unfold atP;rw[mβ (show ¬j≤b by omega)];rfl
   have:=E2 (s:=s) (x::r) i sl hf;simp only[QC]at this;exact this.symm
end
end Go.Ab
end
section
namespace Go.Ab
open Go
noncomputable section
structure Bf (r:RS):Prop where
 tr:Tr r.m.nodes r.par
 ok:GL r
 kv:∀x∈r.m.nodes,ci r.m.nodes x=true
 bn:∀x∈r.m.nodes,x.op=5→(binO.any fun t=>aN x.name t)=true
 r18:cE r.m.nodes ((r.m.nodes.length - 1:Nat):Int)=18
theorem Bf.put {r:RS}(h:Bf r)(i:Nat)(k:Int):Bf (r.put i k):=⟨h.tr,h.ok.put i k,h.kv,h.bn,h.r18⟩
theorem aaF {ns:List No}{x:No}(h:ci ns x=true):1≤x.op∧x.op≤18:=by
 unfold ci at h;simp only[aW]at h;refine Classical.byContradiction fun g=>?_
 have e:∀n:Int,1≤n→n≤18→decide (x.op=n)=false:=fun n h1 h2=>mβ fun e=>g (by omega)
 simp only[e _ (show(1:Int)≤1 by omega) (by omega),e 2 (by omega) (by omega),e 3 (by omega) (by omega),e 4 (by omega) (by omega),e 5 (by omega) (by omega),e 6 (by omega) (by omega),e 7 (by omega) (by omega),e 8 (by omega) (by omega),e 9 (by omega) (by omega),e 10 (by omega) (by omega),e 11 (by omega) (by omega),e 12 (by omega) (by omega),e 13 (by omega) (by omega),e 14 (by omega) (by omega),e 15 (by omega) (by omega),e 16 (by omega) (by omega),e 17 (by omega) (by omega),e 18 (by omega) (by omega),cond_false]at h;cases h
theorem aaE {ns:List No}{x:No}(h:ci ns x=true){k:Int}(hk:k∈x.kids):(x.op=18→cE ns k≠18)∧(x.op≠18→cE ns k≠8):=by
 have all0:∀f,dJ ns x 0 f=true→f (cE ns k)=true:=fun f hf=>by
  unfold dJ at hf;rw[List.drop_zero,mζ]at hf;exact hf k hk
 have hif:∀n,OG ns x n=true→cE ns k≠8:=fun n hf=>by
  unfold OG dJ at hf;simp only[lδ,mζ]at hf;cases hx:x.kids with
  |nil=>rw[hx]at hk;cases hk
  |cons y t=>
   rw[hx]at hk hf;rcases mγ.1 hk with rfl|hk
   ·have:=hf.2.1;simp only[List.headD_cons,dY,bE,lδ,lη]at this;omega
   ·have:=hf.2.2 k (by simpa using hk);simp only[EI,aW,lη]at this;omega
 have hc:ej x 0 0=true→False:=fun g=>by
  unfold ej at g;simp only[lδ,bE,lη]at g;have:=List.length_pos_of_mem hk;omega
 have r:=aaF h;have hop:x.op=1∨x.op=2∨x.op=3∨x.op=4∨x.op=5∨x.op=6∨x.op=7∨x.op=8∨x.op=9∨x.op=10∨x.op=11∨x.op=12∨x.op=13∨x.op=14∨x.op=15∨x.op=16∨x.op=17∨x.op=18:=by omega
 unfold ci at h;rcases hop with o|o|o|o|o|o|o|o|o|o|o|o|o|o|o|o|o|o<;>(simp only[o,aW,Int.reduceEq,decide_false,decide_true,cond_true,cond_false,lδ]at h);all_goals first
  |exact(hc h).elim
  |exact⟨fun e=>by omega,fun _=>hif _ h⟩
  |(
    have:=all0 _ h.2;simp only[dY,td,Ag,bE,aW,lδ,mψ,lη]at this;exact⟨fun e=>by omega,fun _=>by omega⟩)
  |(
    have:=all0 _ h;simp only[CY,bE,lδ,lη]at this;exact⟨fun _=>by omega,fun e=>by omega⟩)
theorem pP {ns:List No}{i:Nat}{x:No}(h:ns[i]?=some x):cE ns (i:Int)=x.op:=by unfold cE;rw[oA,h];rfl
theorem Bf.letp {r:RS}(h:Bf r){j b:Nat}{x y:No}(hx:r.m.nodes[j]?=some x)(h8:x.op=8)(hy:r.m.nodes[b]?=some y)(hb:y.op≠18):r.par.getD j 0≠(b:Int):=fun e=>by
 obtain⟨z,hz,hm⟩:=h.tr.p2 j b (Fc hx) e;rw[hy]at hz;simp only[lα]at hz;subst hz;have:=(aaE (h.kv _ (mι hy)) hm).2 hb;rw[pP hx]at this;exact this h8
theorem Bf.up {r:RS}(h:Bf r){i:Nat}{x:No}(hx:r.m.nodes[i]?=some x)(h18:x.op≠18):(i:Int)<r.par.getD i 0:=by
 obtain⟨k,hs,hk,_⟩:=h.tr.root;have hi:=Fc hx;have hne:i≠k:=fun e=>by
  subst e;have:=h.r18;rw[show r.m.nodes.length - 1=i by omega,pP hx]at this;exact h18 this
 exact(h.tr.sub_in hs (Nat.zero_le _) (show i<k by omega)).1
def QF (r:RS)(b:Nat)(s:List Nat):Option Vr:=match r.m.params.findIdx? fun f=>aN f.name s with
 |some j=>r.m.params[j]?.map fun f=>⟨f.kind,j,false⟩
 |none=>QC (sgt r.par b) s r.m.nodes 0 r.m.params.length
def Xn (r:RS)(s:List Nat):Option Vr:=match r.a.fields.findIdx? fun f=>aN f.name s with
 |some j=>r.a.fields[j]?.map fun f=>⟨f.kind,j,true⟩
 |none=>none
def kiM (r:RS)(b:Nat)(i:Int):Option Int:=match jY r.m.nodes i with
 |some x=>if i<(b:Int)∧x.op≤7 then r.ks[i.toNat]? else none
 |none=>none
def vaM (r:RS)(b:Nat)(i:Int):Option Vr:=match jY r.m.nodes i with
 |some x=>if i<(b:Int)∧(x.op=2∨x.op=8∨x.op=9)then tw r.a r.m r.par i.toNat x.name else none
 |none=>none
structure JR (c:CS)(r:RS)(b:Nat):Prop where
 er:c.er=0
 ns:c.ns=r.m.nodes
 pr:c.pr=r.p
 re:c.re=r.m.result
 fs:∀s,c8 c.fs s=Xn r s
 ki:∀i,sW c.ki i=kiM r b i
 va:∀i,sW c.va i=vaM r b i
 lo:c.lo=r.m.params++uZ (r.m.nodes.take b)
 l8:c.lo.length≤8
 le:∀s,c8 c.le s=if((r.m.params.any fun f=>aN f.name s)||nI (r.m.nodes.take b) s)=true then some true else none
 sc:∀s,c8 c.sc s=QF r b s
theorem abt {ns:List No}{i:Nat}{x:No}(hx:ns[i]?=some x):ns.take (i+1)=ns.take i++[x]:=by
 rw[List.take_add_one,hx];rfl
theorem La {ns:List No}{i:Nat}{x:No}(hx:ns[i]?=some x):uZ (ns.take (i+1))=uZ (ns.take i)++if x.op=8 then[⟨x.name,x.v.k⟩]else[]:=by
 rw[abt hx];unfold uZ;rw[List.filter_append,List.map_append];by_cases h:x.op=8<;>simp[h]
theorem Si {ns:List No}{i:Nat}{x:No}(hx:ns[i]?=some x)(s:List Nat):nI (ns.take (i+1)) s=(nI (ns.take i) s||(decide (x.op=8)&&aN x.name s)):=by
 rw[abt hx];unfold nI;rw[List.any_append];simp
theorem Iw (l:List No):(uZ l).length=nJ l:=by unfold uZ nJ;simp
theorem aeY {r:RS}(hl:r.ks.length=r.m.nodes.length){i:Nat}{x:No}(hx:r.m.nodes[i]?=some x)(k j:Int):kiM (r.put i k) (i+1) j=if x.op≤7∧j=(i:Int)then some k else kiM r i j:=by
 unfold kiM RS.put;have hi:=Fc hx;by_cases hj:j=(i:Int)
 ·subst hj;simp only[oA,hx,Int.toNat_natCast];by_cases h7:x.op≤7
  ·rw[if_pos ⟨by omega,h7⟩,if_pos ⟨h7,trivial⟩,qγ (by omega)]
  ·rw[if_neg (fun g=>h7 g.2),if_neg (fun g=>h7 g.1),if_neg (fun g=>h7 g.2)]
 ·rw[if_neg (fun g=>hj g.2)];cases ha:jY r.m.nodes j with
  |none=>rfl
  |some y=>
   obtain⟨q,rfl,_⟩:=C6 ha;have hne:i≠q:=fun e=>hj (by rw[e])
   simp only[Int.toNat_natCast,mυ hne];by_cases g:(q:Int)<(i:Int)∧y.op≤7
   ·rw[if_pos g,if_pos ⟨by omega,g.2⟩]
   ·rw[if_neg g,if_neg (fun e=>g ⟨by omega,e.2⟩)]
theorem Qt {r:RS}{i:Nat}{x:No}(hx:r.m.nodes[i]?=some x)(k j:Int):vaM (r.put i k) (i+1) j=if(x.op=2∨x.op=8∨x.op=9)∧j=(i:Int)then tw r.a r.m r.par i x.name else vaM r i j:=by
 unfold vaM RS.put;by_cases hj:j=(i:Int)
 ·subst hj;simp only[oA,hx,Int.toNat_natCast];by_cases h7:x.op=2∨x.op=8∨x.op=9
  ·rw[if_pos ⟨by omega,h7⟩,if_pos ⟨h7,trivial⟩]
  ·rw[if_neg (fun g=>h7 g.2),if_neg (fun g=>h7 g.1),if_neg (fun g=>h7 g.2)]
 ·rw[if_neg (fun g=>hj g.2)];cases ha:jY r.m.nodes j with
  |none=>rfl
  |some y=>
   obtain⟨q,rfl,_⟩:=C6 ha;have hne:i≠q:=fun e=>hj (by rw[e])
   simp only[Int.toNat_natCast];by_cases g:(q:Int)<(i:Int)∧(y.op=2∨y.op=8∨y.op=9)
   ·rw[if_pos g,if_pos ⟨by omega,g.2⟩]
   ·rw[if_neg g,if_neg (fun e=>g ⟨by omega,e.2⟩)]
theorem ae5 {r:RS}(h:Bf r){i:Nat}{x:No}(hx:r.m.nodes[i]?=some x)(h18:x.op≠18){s:List Nat}(h8:x.op=8→x.name≠s):QF r (i+1) s=QF r i s:=by
 unfold QF;split
 ·rfl
 ·refine t7 _ _ _ fun j y hy o hn=>?_
  rw[Nat.zero_add];have hp:=h.letp hy o hx h18;unfold sgt;by_cases e:j=i
  ·subst e;rw[hx]at hy;simp only[lα]at hy;subst hy;exact absurd hn (h8 o)
  ·rw[show decide (j<i+1)=decide (j<i)from decide_eq_decide.2 ⟨fun _=>by omega,fun _=>by omega⟩,show decide (((i+1:Nat):Int)≤r.par.getD j 0)=decide ((i:Int)≤r.par.getD j 0)from decide_eq_decide.2 ⟨fun _=>by omega,fun _=>by omega⟩]
theorem E5 {c:CS}{r:RS}{i:Nat}(h:Bf r)(hm:JR c r i){x:No}(hx:r.m.nodes[i]?=some x)(h18:x.op≠18)(h8:x.op≠8)(s:List Nat):pJ c s=tw r.a r.m r.par i s:=by
 unfold pJ tw;rw[hm.fs,hm.sc];unfold Xn;cases hf:r.a.fields.findIdx? fun f=>aN f.name s with
 |some j=>
  have hj:=(lτ.1 hf).1;simp only[lγ hj,Option.map_some]
 |none=>
  unfold QF;simp only;cases r.m.params.findIdx? fun f=>aN f.name s with
  |some j=>rfl
  |none=>
   simp only;unfold IU;rw[LV];refine t7 _ _ _ fun j y hy o hn=>?_
   rw[Nat.zero_add];have hp:=h.letp hy o hx h18;have hne:j≠i:=fun e=>by
    subst e;rw[hx]at hy;simp only[lα]at hy;subst hy;exact h8 o
   unfold sgt atP;rw[mβ hne,Bool.false_or,show decide (j≤i)=decide (j<i)from decide_eq_decide.2 ⟨fun _=>by omega,fun _=>by omega⟩,show decide ((i:Int)≤r.par.getD j 0)=decide ((i:Int)<r.par.getD j 0)from decide_eq_decide.2 ⟨fun _=>by omega,fun _=>by omega⟩]
theorem xL {α:Type}{l:List α}{f:α→Bool}(h:l.any f=false):l.findIdx? f=none:=by
 rw[mω];intro x hx;rw[qθ]at h;simpa using h x hx
theorem agL {r:RS}(h:Bf r){i:Nat}{x:No}(hx:r.m.nodes[i]?=some x)(h8:x.op=8)(hl:nI (r.m.nodes.take i) x.name=false)(hp:(r.m.params.any fun f=>aN f.name x.name)=false)(hf:(r.a.fields.any fun f=>aN f.name x.name)=false):
  tw r.a r.m r.par i x.name=some ⟨x.v.k,((r.m.params.length+nJ (r.m.nodes.take i):Nat):Int),false⟩∧QF r (i+1) x.name=some ⟨x.v.k,((r.m.params.length+nJ (r.m.nodes.take i):Nat):Int),false⟩:=by
 have hi:=Fc hx;have hsp:r.m.nodes=r.m.nodes.take i++x::r.m.nodes.drop (i+1):=by
  have:=List.take_append_drop i r.m.nodes;rw[lξ hi]at this;rw[lγ hi]at hx;simp only[lα]at hx;rw[hx]at this;exact this.symm
 have hlen:(r.m.nodes.take i).length=i:=by simp;omega
 have hup:=h.up hx (by omega);constructor
 ·unfold tw IU;rw[xL hf,xL hp];simp only;rw[LV,hsp];have:=Kt (P:=atP r.par i) (s:=x.name) (r.m.nodes.drop (i+1)) h8 rfl (r.m.nodes.take i) 0 r.m.params.length hl (by rw[hlen,Nat.zero_add];unfold atP;simp);rw[this,←hsp]
 ·unfold QF;rw[xL hp];simp only;have:=Kt (P:=sgt r.par (i+1)) (s:=x.name) (r.m.nodes.drop (i+1)) h8 rfl (r.m.nodes.take i) 0 r.m.params.length hl (by rw[hlen,Nat.zero_add];unfold sgt;rw[mη (show i<i+1 by omega),mη (show(((i+1:Nat):Int))≤r.par.getD i 0 by omega)];rfl)
  rw[←hsp]at this;exact this
end
end Go.Ab
end
