import Derived.Test.YtbgddkffhndjcaaGreatDoorKg2
import Derived.Test.YtbgddkffhndjcaaGreatDoorOg3
set_option linter.all false
section
namespace Go.Ab
open Go
set_option maxRecDepth 100000
noncomputable section
def hdS:List Nat:=[97,99,116,111,114,32,65,32,123,32,115,116,97,116,101,32,120,58,32,105,110,116,32,61,32,48,59,32,109,101,116,104,111,100,32,109,40,41,32,123,32,120,32,61]
def tlS:List Nat:=[59,32,125,32,125]
def st (t:Tk):Tk:={t with a:=0}
def sh (d:Nat)(t:Tk):Tk:={t with a:=t.a+d}
theorem QT (d:Nat)(l:List Tk):(l.map (sh d)).map st=l.map st:=by rw[List.map_map];rfl
theorem yR:∀(q:Nat) (u:List Nat) (i:Nat) (acc R:List Tk) (a:Int),By u→u.length<q→uy q u i acc=(R,a,0)→
  ∃T,R=acc++T∧∀d acc',uy q u (i+d) acc'=(acc'++T.map (sh d),0,0)
 |0,u,i,acc,R,a,hb,hq,h=>by omega
 |q+1,u,i,acc,R,a,hb,hq,h=>by
  have hle:=qh false u;unfold uy at h;generalize hv:u.drop (fb false u)=v at h;have hvs:∀x∈v,x∈u:=fun x hx=>mι (hv▸hx)
  have hvl:v.length≤u.length:=by rw[←hv,lτ];omega
  match v,hv,hvl,hvs,h with
  |[],hv,_,_,h=>
   injection h with h1 h2;subst h1;refine⟨[],by simp,fun d acc'=>?_⟩
   unfold uy;rw[hv];simp[Ic]
  |c::v,hv,hvl,hvs,h=>
   simp only[List.length_cons]at hvl;rw[nS]at h;cases ho:eqI (cV (c::v)).2.2 0 with
   |false=>
    rw[ho,Bool.not_false,cond_true]at h;injection h with _ h;injection h with _ h;rw[h]at ho;cases ho
   |true=>
    rw[ho,Bool.not_true,cond_false]at h;have ho':=ho;rw[cF,lβ]at ho';obtain⟨t1,t2⟩:=JI c v (fun x hx=>hb x (hvs x hx)) ho';simp only[List.length_cons]at t2;obtain⟨T,e1,e2⟩:=yR q _ _ _ R a (fun x hx=>hb x (hvs x (mι hx))) (by rw[lτ];simp only[List.length_cons];omega) h;refine⟨{(cV (c::v)).1 with a:=((i+fb false u:Nat):Int)}::T,by rw[e1];simp,fun d acc'=>?_⟩
    unfold uy;rw[hv,nS,ho,Bool.not_true,cond_false];have e3:i+d+fb false u+(cV (c::v)).2.1.toNat=i+fb false u+(cV (c::v)).2.1.toNat+d:=by omega
    rw[e3,e2,List.map_cons,lω];have e4:({(cV (c::v)).1 with a:=((i+d+fb false u:Nat):Int)}:Tk)=sh d {(cV (c::v)).1 with a:=((i+fb false u:Nat):Int)}:=by
     unfold sh;simp only[Tk.mk.injEq,true_and];omega
    rw[e4];rfl
theorem Ig (s:List Nat)(h:s.length≤6000):eI s=uy (s.length+1) s 0 []:=by
 unfold eI uy;have:bo 6000 (s.length:Int)=false:=by rw[oJ,lχ];omega
 rw[this,cond_false,Nat.zero_add]
theorem kX {q q':Nat}{u:List Nat}{i:Nat}{acc:List Tk}(hb:By u)(h1:u.length<q)(h2:u.length<q'):uy q u i acc=uy q' u i acc:=
 yQ q q' _ _ _ (hb.drop _) (by rw[lτ];omega) (by rw[lτ];omega)
def hdK:List Tk:=(uy 60 hdS 0 []).1
def tlK:List Tk:=(uy 20 tlS 0 []).1
theorem Xv:uy 60 hdS 0 []=(hdK,0,0):=by kernel_rfl
theorem X7:uy 20 tlS 0 []=(tlK,0,0):=by kernel_rfl
theorem XW:uy 20 (41::tlS) 0 []=(⟨5,[41],0,0⟩::tlK.map (sh 1),0,0):=by kernel_rfl
theorem XI (q:Nat)(X:List Nat)(i:Nat)(acc:List Tk):uy (q+1) (40::X) i acc=uy q X (i+1) (acc++[⟨5,[40],0,i⟩]):=by
 have e:cV (40::X)=(⟨5,[40],0,0⟩,1,0):=rfl;unfold uy;have e0:fb false (40::X)=0:=rfl;rw[e0,List.drop_zero,nS,e];rfl
theorem IH:By hdS:=by unfold By hdS;decide
theorem DW:By tlS:=by unfold By tlS;decide
theorem xw:hdS.length=44:=rfl
theorem gl:tlS.length=5:=rfl
theorem PP (X:List Nat)(q:Nat)(hb:By X)(hq:X.length<q)(hl:X.length≤5000):eI (hdS++32::X)=uy q X 45 hdK:=by
 have hbb:By (hdS++32::X):=fun x hx=>by
  rcases mδ.1 hx with h|h
  ·exact IH x h
  ·rcases lψ.1 h with rfl|h
   ·decide
   ·exact hb x h
 have hlen:(hdS++32::X).length=X.length+45:=by simp[xw];omega
 rw[Ig _ (by omega)];obtain⟨k,hk⟩:=vJ (c0:=32) X 59 hdS 0 [] hdK 0 IH (.inr ⟨rfl,by decide⟩) (by rw[xw];omega) Xv;rw[kX (q':=(q+X.length+45)+k) hbb (by omega) (by omega),hk,xw];exact kX hb (by omega) hq
theorem Q6 {s:List Nat}{t:List Tk}{a:Int}(hb:By s)(hl:s.length≤300)(h:eI s=(t,a,0)):∃T,eI (hdS++32::(s++10::tlS))=(T,0,0)∧T.map st=hdK.map st++t.map st++tlK.map st:=by
 rw[Ig s (by omega)]at h;have hbt:By (s++10::tlS):=fun x hx=>by
  rcases mδ.1 hx with h|h
  ·exact hb x h
  ·rcases lψ.1 h with rfl|h
   ·decide
   ·exact DW x h
 obtain⟨T1,e1,e2⟩:=yR (s.length+1) s 0 [] t a hb (by omega) h;rw[List.nil_append]at e1;subst e1;have e3:=e2 45 hdK;rw[Nat.zero_add]at e3;obtain⟨k,hk⟩:=vJ (c0:=10) tlS s.length s 45 hdK _ 0 hb (.inl rfl) (Nat.le_refl _) e3;obtain⟨T2,e4,e5⟩:=yR 20 tlS 0 [] tlK 0 DW (by decide) X7;rw[List.nil_append]at e4;subst e4;have heq:eI (hdS++32::(s++10::tlS))=((hdK++t.map (sh 45))++tlK.map (sh (45+s.length+1)),0,0):=by
  rw[PP _ (20+k+s.length+10) hbt (by simp[gl];omega) (by simp[gl];omega),kX (q':=(20+s.length+10)+k) hbt (by simp[gl];omega) (by simp[gl];omega),hk,kX (q':=20) DW (by simp[gl]) (by simp[gl])];have:=e5 (45+s.length+1) (hdK++t.map (sh 45));rw[Nat.zero_add]at this;exact this
 exact⟨_,heq,by simp only[List.map_append,QT]⟩
theorem Q7 {s:List Nat}{t:List Tk}{a:Int}(hb:By s)(hl:s.length≤300)(h:eI s=(t,a,0)):∃T,eI (hdS++32::(40::(s++10::(41::tlS))))=(T,0,0)∧T.map st=hdK.map st++[⟨5,[40],0,0⟩]++t.map st++[⟨5,[41],0,0⟩]++tlK.map st:=by
 rw[Ig s (by omega)]at h;have hbr:By (41::tlS):=by unfold By tlS;decide
 have hbt:By (s++10::(41::tlS)):=fun x hx=>by
  rcases mδ.1 hx with h|h
  ·exact hb x h
  ·rcases lψ.1 h with rfl|h
   ·decide
   ·exact hbr x h
 have hbl:By (40::(s++10::(41::tlS))):=fun x hx=>by
  rcases lψ.1 hx with rfl|h
  ·decide
  ·exact hbt x h
 obtain⟨T1,e1,e2⟩:=yR (s.length+1) s 0 [] t a hb (by omega) h;rw[List.nil_append]at e1;subst e1;have e3:=e2 46 (hdK++[⟨5,[40],0,((45:Nat):Int)⟩]);rw[Nat.zero_add]at e3;obtain⟨k,hk⟩:=vJ (c0:=10) (41::tlS) s.length s 46 (hdK++[⟨5,[40],0,((45:Nat):Int)⟩]) _ 0 hb (.inl rfl) (Nat.le_refl _) e3;obtain⟨T2,e4,e5⟩:=yR 20 (41::tlS) 0 [] _ 0 hbr (by decide) XW;rw[List.nil_append]at e4;have heq:eI (hdS++32::(40::(s++10::(41::tlS))))=(((hdK++[⟨5,[40],0,((45:Nat):Int)⟩])++t.map (sh 46))++T2.map (sh (46+s.length+1)),0,0):=by
  rw[PP _ ((20+k+s.length+10)+1) hbl (by simp[gl];omega) (by simp[gl];omega),XI,kX (q':=(20+s.length+10)+k) hbt (by simp[gl];omega) (by simp[gl];omega),hk,kX (q':=20) hbr (by simp[gl]) (by simp[gl])];have:=e5 (46+s.length+1) ((hdK++[⟨5,[40],0,((45:Nat):Int)⟩])++t.map (sh 46));rw[Nat.zero_add]at this;exact this
 refine⟨_,heq,?_⟩;rw[←e4];simp only[List.map_append,QT,List.map_cons,List.map_nil,lω,List.cons_append,List.nil_append];rfl
end
end Go.Ab
end
section
namespace Go.Ab
open Go
set_option maxRecDepth 100000
noncomputable section
structure lE (e:Nat)(s s':PS):Prop where
 ok:s.ok=true
 ok':s'.ok=true
 ps:s'.ps=s.ps+1
 le:s.ps≤e
 tk:∀i,s.ps≤i→i<e→(s'.tk[i+1]?).map st=(s.tk[i]?).map st
 e1:(s.tk[e]?).map st=some ⟨5,[59],0,0⟩
 e2:(s'.tk[e+1]?).map st=some ⟨5,[41],0,0⟩
 ne:s'.ne=aj .i64 (s.ne+1)
 tt:s'.tt=s.tt
 nd:s'.nd=s.nd
structure bp {α:Type}(e:Nat)(p p':PM α):Prop where
 rel:∀{s s' t t':PS} {a a':α},lE e s s'→p s=some (a,t)→p' s'=some (a',t')→(a'=a∧lE e t t')∨t.ok=false∨t'.er=5
 keep:∀{s t:PS} {a:α},s.ok=false→p s=some (a,t)→t.er=s.er
 keep':∀{s t:PS} {a:α},s.ok=false→p' s=some (a,t)→t.er=s.er
theorem gK {s t:PS}(h:s.ok=false)(e:t.er=s.er):t.ok=false:=by
 rw[Qp]at h ⊢
 rw[e];exact h
theorem Yj {s t:PS}(h:s.er=5):s.ok=false:=by rw[Qp,h];decide
theorem bp.bnd {α β:Type}{e:Nat}{p p':PM α}{f f':α→PM β}(hp:bp e p p')(hf:∀a,bp e (f a) (f' a)):bp e (p.bnd f) (p'.bnd f') where
 rel h e1 e2:=by
  obtain⟨b,u,h1,h2⟩:=ae e1;obtain⟨b',u',h1',h2'⟩:=ae e2;rcases hp.rel h h1 h1' with⟨rfl,g⟩|g|g
  ·exact(hf _).rel g h2 h2'
  ·exact .inr (.inl (gK g ((hf _).keep g h2)))
  ·exact .inr (.inr (((hf b').keep' (Yj (t:=u') g) h2').trans g))
 keep h e1:=by
  obtain⟨b,u,h1,h2⟩:=ae e1;have:=hp.keep h h1;exact((hf _).keep (gK h this) h2).trans this
 keep' h e1:=by
  obtain⟨b,u,h1,h2⟩:=ae e1;have:=hp.keep' h h1;exact((hf b).keep' (gK h this) h2).trans this
theorem bp.ret {α:Type}{e:Nat}(a:α):bp e (PM.ret a) (PM.ret a) where
 rel h e1 e2:=by
  obtain⟨rfl,rfl⟩:=aF e1;obtain⟨rfl,rfl⟩:=aF e2;exact .inl ⟨rfl,h⟩
 keep h e1:=by
  obtain⟨rfl,rfl⟩:=aF e1;rfl
 keep' h e1:=by
  obtain⟨rfl,rfl⟩:=aF e1;rfl
theorem bp.none1 {α:Type}{e:Nat}{p':PM α}(k:∀{s t:PS} {a:α},s.ok=false→p' s=some (a,t)→t.er=s.er):bp e (fun _=>(none:Option (α×PS))) p':=⟨fun _ e1 _=>(by cases e1),fun _ e1=>(by cases e1),k⟩
theorem bp.none2 {α:Type}{e:Nat}{p:PM α}(k:∀{s t:PS} {a:α},s.ok=false→p s=some (a,t)→t.er=s.er):bp e p (fun _=>(none:Option (α×PS))):=⟨fun _ _ e2=>(by cases e2),k,fun _ e1=>(by cases e1)⟩
theorem bp.cok {α:Type}{e:Nat}{p p' q q':PM α}(hp:bp e p p')(hq:bp e q q'):bp e (cok p q) (cok p' q') where
 rel h e1 e2:=by
  rcases bx e1 with⟨k,e1⟩|⟨k,e1⟩
  ·rcases bx e2 with⟨k',e2⟩|⟨k',e2⟩
   ·exact hp.rel h e1 e2
   ·rw[h.ok']at k';cases k'
  ·rw[h.ok]at k;cases k
 keep h e1:=by
  rcases bx e1 with⟨k,e1⟩|⟨k,e1⟩
  ·rw[h]at k;cases k
  ·exact hq.keep h e1
 keep' h e1:=by
  rcases bx e1 with⟨k,e1⟩|⟨k,e1⟩
  ·rw[h]at k;cases k
  ·exact hq.keep' h e1
theorem bp.cnd {α:Type}{e:Nat}{c c':PS→Bool}{p p' q q':PM α}(hc:∀{s s'},lE e s s'→c' s'=c s)(hp:bp e p p')(hq:bp e q q'):bp e (cnd c p q) (cnd c' p' q') where
 rel h e1 e2:=by
  obtain⟨-,e1⟩:=aH e1;obtain⟨-,e2⟩:=aH e2;rw[hc h]at e2;rcases e1 with⟨k,e1⟩|⟨k,e1⟩<;>rcases e2 with⟨k',e2⟩|⟨k',e2⟩
  ·exact hp.rel h e1 e2
  ·rw[k]at k';cases k'
  ·rw[k]at k';cases k'
  ·exact hq.rel h e1 e2
 keep h e1:=by
  obtain⟨-,e1⟩:=aH e1;rcases e1 with⟨k,e1⟩|⟨k,e1⟩
  ·exact hp.keep h e1
  ·exact hq.keep h e1
 keep' h e1:=by
  obtain⟨-,e1⟩:=aH e1;rcases e1 with⟨k,e1⟩|⟨k,e1⟩
  ·exact hp.keep' h e1
  ·exact hq.keep' h e1
theorem LS (t:Tk):bZ (st t)=bZ t:=rfl
theorem jw (s:PS)(hk:s.ok=true)(i:Nat):st (s.peek i)=match (s.tk[s.ps+i]?).map st with|some t=>bif bZ t then t else tk0|none=>tk0:=by
 unfold PS.peek;rw[hk,cond_true];cases s.tk[s.ps+i]? with
 |none=>rfl
 |some t=>
  simp only[Option.map_some,LS];cases bZ t<;>rfl
theorem lE.pk {e:Nat}{s s':PS}(h:lE e s s')(i:Nat)(hi:s.ps+i<e):st (s'.peek i)=st (s.peek i):=by
 rw[jw s h.ok,jw s' h.ok',h.ps,show s.ps+1+i=(s.ps+i)+1 by omega,h.tk _ (by omega) hi]
theorem lE.pe {e:Nat}{s s':PS}(h:lE e s s')(i:Nat)(hi:s.ps+i=e):st (s.peek i)=⟨5,[59],0,0⟩∧st (s'.peek i)=⟨5,[41],0,0⟩:=by
 rw[jw s h.ok,jw s' h.ok',h.ps,show s.ps+1+i=(s.ps+i)+1 by omega,hi,h.e1,h.e2];exact⟨by kernel_rfl,by kernel_rfl⟩
theorem ko {t u:Tk}(h:st t=st u):t.k=u.k∧t.s=u.s∧t.n=u.n:=by
 unfold st at h;simp only[Tk.mk.injEq,and_true]at h;exact h
theorem lE.see {e:Nat}{s s':PS}(h:lE e s s'){β:Type}(g:Int→List Nat→β)(hg:g 5 [59]=g 5 [41]):g (s'.peek 0).k (s'.peek 0).s=g (s.peek 0).k (s.peek 0).s:=by
 rcases lν s.ps e with hl|hl
 ·obtain⟨e1,e2,_⟩:=ko (h.pk 0 hl);rw[e1,e2]
 ·obtain⟨e1,e2⟩:=h.pe 0 (by have:=h.le;omega);have a1:(s.peek 0).k=5∧(s.peek 0).s=[59]∧_:=ko (u:=⟨5,[59],0,0⟩) e1;have a2:(s'.peek 0).k=5∧(s'.peek 0).s=[41]∧_:=ko (u:=⟨5,[41],0,0⟩) e2;rw[a1.1,a1.2.1,a2.1,a2.2.1,hg]
def Wd (x:List Nat):Prop:=x≠[59]∧x≠[41]
theorem lE.is {e:Nat}{s s':PS}(h:lE e s s'){x:List Nat}(hx:Wd x):s'.is x=s.is x:=
 h.see (fun k w=>(eqI k 2||eqI k 5)&&cp w x) (by
  simp only[iq];rw[mψ (fun e=>hx.1 e.symm),mψ (fun e=>hx.2 e.symm)])
theorem lE.kd {e:Nat}{s s':PS}(h:lE e s s')(k:Int):eqI (s'.peek 0).k k=eqI (s.peek 0).k k:=h.see (fun x _=>eqI x k) rfl
theorem lE.begins {e:Nat}{s s':PS}(h:lE e s s'):s'.begins=s.begins:=
 h.see (fun k w=>(eqI k 1||(eqI k 3||eqI k 4))||((eqI k 2||eqI k 5)&&beginL.any (cp w))) (by decide)
theorem lE.appl {e:Nat}{s s':PS}(h:lE e s s')(hl:s.ps<e):s'.appl=s.appl:=by
 unfold PS.appl;rcases lν (s.ps+1) e with hl1|hl1
 ·obtain⟨e1,e2,_⟩:=ko (h.pk 1 hl1);rw[e1,e2]
 ·obtain⟨e1,e2⟩:=h.pe 1 (by omega);have a1:(s.peek 1).k=5∧(s.peek 1).s=[59]∧_:=ko (u:=⟨5,[59],0,0⟩) e1;have a2:(s'.peek 1).k=5∧(s'.peek 1).s=[41]∧_:=ko (u:=⟨5,[41],0,0⟩) e2;rw[a1.1,a1.2.1,a2.1,a2.2.1];decide
theorem lE.lt {e:Nat}{s s':PS}(h:lE e s s'){x:List Nat}(hx:x≠[59])(k:s.is x=true):s.ps<e:=by
 rcases lν s.ps e with hl|hl
 ·exact hl
 ·exfalso;obtain⟨e1,_⟩:=h.pe 0 (by have:=h.le;omega);obtain⟨a1,a2,_⟩:=ko (u:=⟨5,[59],0,0⟩) e1;unfold PS.is at k;rw[a1,a2,lγ,iq,lβ]at k;exact hx k.2.symm
theorem lE.ltk {e:Nat}{s s':PS}(h:lE e s s'){k:Int}(hk:k≠5)(q:eqI (s.peek 0).k k=true):s.ps<e:=by
 rcases lν s.ps e with hl|hl
 ·exact hl
 ·exfalso;obtain⟨e1,_⟩:=h.pe 0 (by have:=h.le;omega);obtain⟨a1,_⟩:=ko (u:=⟨5,[59],0,0⟩) e1;rw[a1,cF,lβ]at q;exact hk q.symm
theorem lE.up {e:Nat}{s s':PS}(h:lE e s s')(hl:s.ps<e):lE e s.up s'.up:=
 ⟨h.ok,h.ok',by show s'.ps+1=s.ps+1+1;rw[h.ps],hl,fun i h1 h2=>h.tk i (mρ (Nat.le_succ _) h1) h2,h.e1,h.e2,h.ne,h.tt,h.nd⟩
theorem oe {s:PS}(h:s.ok=false)(k:Int):(s.fail k).er=s.er:=by unfold PS.fail;rw[h];rfl
end
end Go.Ab
end
section
namespace Go.Ab
open Go
set_option maxRecDepth 100000
noncomputable section
variable {e:Nat}
theorem bp.lf {α:Type}{g g':PS→α×PS}(h1:∀{s s'},lE e s s'→((g' s').1=(g s).1∧lE e (g s).2 (g' s').2)∨(g s).2.ok=false∨(g' s').2.er=5)(k1:∀{s:PS},s.ok=false→(g s).2.er=s.er)(k2:∀{s:PS},s.ok=false→(g' s).2.er=s.er):bp e (Go.Ab.lf g) (Go.Ab.lf g') where
 rel h e1 e2:=by
  obtain⟨-,e1⟩:=bb e1;obtain⟨-,e2⟩:=bb e2;have:=h1 h;rw[e1,e2]at this;exact this
 keep h e1:=by
  obtain⟨-,e1⟩:=bb e1;have:=k1 h;rw[e1]at this;exact this
 keep' h e1:=by
  obtain⟨-,e1⟩:=bb e1;have:=k2 h;rw[e1]at this;exact this
theorem fj {s:PS}(h:s.ok=false)(x:List Nat):(s.exp x).er=s.er:=by
 unfold PS.exp;cases s.is x with
 |true=>rfl
 |false=>exact oe h 13
theorem lE.exp {s s':PS}(h:lE e s s'){x:List Nat}(hx:x≠[59]):lE e (s.exp x) (s'.exp x)∨(s.exp x).ok=false:=by
 unfold PS.exp;cases k:s.is x with
 |false=>exact .inr (cU s (by decide))
 |true=>
  have hl:=h.lt hx k;have:s'.is x=true:=by
   obtain⟨a1,a2,_⟩:=ko (h.pk 0 hl);unfold PS.is at k ⊢
   rw[a1,a2];exact k
  rw[this];exact .inl (h.up hl)
theorem Im (n:Int):aj .i64 n=if 9223372036854775808≤n % 18446744073709551616 then n % 18446744073709551616 - 18446744073709551616 else n % 18446744073709551616:=by
 letI:Letters:=⟨fun _=>0⟩
 rw[hU];have h1:(2 ^ IntKind.i64.bits:Int)=18446744073709551616:=rfl;have h2:(2 ^ (IntKind.i64.bits - 1):Int)=9223372036854775808:=rfl;have h3:IntKind.i64.signed=true:=rfl;unfold IntKind.wrap;simp only[h1,h2,h3,Bool.true_and,lβ,ge_iff_le]
theorem rU (a b:Int):aj .i64 (aj .i64 a+b)=aj .i64 (a+b):=by
 rw[Im (aj .i64 a+b),Im (a+b),Im a];split<;>split<;>split<;>omega
theorem HU {x:List Nat}(hx:x≠[59]):bp e (kL x) (kL x):=by
 have kp:∀{s:PS},s.ok=false→(s.open x).er=s.er:=fun {s} h=>by
  unfold PS.open PS.opn1;have hi:s.is x=false:=Qo h x;rw[hi,Bool.false_and,cond_false];exact fj h x
 refine bp.lf (fun {s s'} h=>?_) kp kp;show((()=())∧lE e (s.open x) (s'.open x))∨(s.open x).ok=false∨(s'.open x).er=5;unfold PS.open PS.opn1;cases k:s.is x with
 |false=>
  rw[Bool.false_and,cond_false];refine .inr (.inl ?_);show(s.exp x).ok=false;unfold PS.exp;rw[k];exact cU s (by decide)
 |true=>
  have hl:=h.lt hx k;have k':s'.is x=true:=by
   obtain⟨a1,a2,_⟩:=ko (h.pk 0 hl);unfold PS.is at k ⊢
   rw[a1,a2];exact k
  rw[k',Bool.true_and,Bool.true_and];cases n1:eqI s.ne 24 with
  |true=>
   rw[cond_true];refine .inr (.inl ?_);show((s.fail 5).exp x).ok=false;exact gK (cU s (by decide)) (fj (cU s (by decide)) x)
  |false=>
   cases n2:eqI s'.ne 24 with
   |true=>
    rw[cond_true];refine .inr (.inr ?_);show((s'.fail 5).exp x).er=5;rw[fj (cU s' (by decide)) x];unfold PS.fail;rw[h.ok'];rfl
   |false=>
    rw[cond_false,cond_false];rcases h.exp hx with g|g
    ·refine .inl ⟨rfl,⟨g.ok,g.ok',g.ps,g.le,g.tk,g.e1,g.e2,?_,g.tt,g.nd⟩⟩;show aj .i64 ((s'.exp x).ne+1)=aj .i64 (aj .i64 ((s.exp x).ne+1)+1);rw[g.ne]
    ·exact .inr (.inl g)
theorem Jv {x:List Nat}(hx:x≠[59]):bp e (gM x) (gM x):=by
 refine bp.lf (fun {s s'} h=>?_) (fun h=>fj h x) fun h=>fj h x
 rcases h.exp hx with g|g
 ·refine .inl ⟨rfl,⟨g.ok,g.ok',g.ps,g.le,g.tk,g.e1,g.e2,?_,g.tt,g.nd⟩⟩;show aj .i64 ((s'.exp x).ne - 1)=aj .i64 (aj .i64 ((s.exp x).ne - 1)+1);rw[g.ne,rU];show aj .i64 (aj .i64 ((s.exp x).ne+1)+ -1)=_;rw[rU];congr 1;omega
 ·exact .inr (.inl g)
theorem r_dec:bp e pDec pDec where
 rel {s s' t t' a a'} h e1 e2:=by
  have e1:=qO e1;have e2:=qO e2;subst e1 e2;refine .inl ⟨rfl,⟨h.ok,h.ok',h.ps,h.le,h.tk,h.e1,h.e2,?_,h.tt,h.nd⟩⟩;show aj .i64 (s'.ne - 1)=aj .i64 (aj .i64 (s.ne - 1)+1);rw[h.ne,rU];show aj .i64 (aj .i64 (s.ne+1)+ -1)=_;rw[rU];congr 1;omega
 keep h e1:=by
  have e1:=qO e1;subst e1;rfl
 keep' h e1:=by
  have e1:=qO e1;subst e1;rfl
theorem qF {s t:PS}{x:No}{a:Int}(h:s.ok=false)(e1:ea x s=some (a,t)):t.er=s.er:=by
 obtain⟨-,-,e1⟩:=jJ e1;unfold PS.add at e1;rw[h]at e1;injection e1 with _ e1;subst e1;rfl
theorem ui (x:No):bp e (ea x) (ea x) where
 rel {s s' t t' a a'} h e1 e2:=by
  obtain⟨-,-,e1⟩:=jJ e1;obtain⟨-,-,e2⟩:=jJ e2;unfold PS.add at e1 e2;rw[h.ok]at e1;rw[h.ok',h.nd]at e2;injection e1 with e1 e3;injection e2 with e2 e4;subst e1 e2 e3 e4;exact .inl ⟨rfl,⟨h.ok,h.ok',h.ps,h.le,h.tk,h.e1,h.e2,h.ne,h.tt,rfl⟩⟩
 keep h e1:=qF h e1
 keep' h e1:=qF h e1
theorem r_fail:bp e (rB 13) (rB 13):=bp.lf (fun {s s'} h=> .inr (.inl (cU s (by decide)))) (fun h=>oe h 13) fun h=>oe h 13
end
end Go.Ab
end
section
namespace Go.Ab
open Go
set_option maxRecDepth 100000
noncomputable section
variable {e:Nat}
theorem HV {α:Type}{x:List Nat}(hx:Wd x){p p' q q':PM α}(hp:bp e p p')(hq:bp e q q'):bp e (cnd (fun s=>s.is x) (pUp.bnd fun _=>p) q) (cnd (fun s=>s.is x) (pUp.bnd fun _=>p') q') where
 rel h e1 e2:=by
  obtain⟨-,e1⟩:=aH e1;obtain⟨-,e2⟩:=aH e2;simp only[h.is hx]at e2;rcases e1 with⟨k,e1⟩|⟨k,e1⟩<;>rcases e2 with⟨k',e2⟩|⟨k',e2⟩
  ·obtain⟨_,u,h1,h2⟩:=ae e1;obtain⟨_,u',h1',h2'⟩:=ae e2;obtain⟨-,rfl⟩:=bJ h1;obtain⟨-,rfl⟩:=bJ h1';exact hp.rel (h.up (h.lt hx.1 k)) h2 h2'
  ·rw[k]at k';cases k'
  ·rw[k]at k';cases k'
  ·exact hq.rel h e1 e2
 keep h e1:=by
  obtain⟨-,e1⟩:=aH e1;rcases e1 with⟨k,e1⟩|⟨k,e1⟩
  ·rw[Qo h]at k;cases k
  ·exact hq.keep h e1
 keep' h e1:=by
  obtain⟨-,e1⟩:=aH e1;rcases e1 with⟨k,e1⟩|⟨k,e1⟩
  ·rw[Qo h]at k;cases k
  ·exact hq.keep' h e1
theorem xm {α:Type}{p q:α→Bool}:∀(l:List α),(∀x∈l,p x=q x)→l.find? p=l.find? q
 |[],_=>rfl
 |x::r,h=>by
  rw[List.find?_cons,List.find?_cons,h x (mν ..),xm r fun y hy=>h y (mθ _ hy)]
theorem UG {α:Type}{l:List (List Nat)}(hl:∀x∈l,Wd x){p p':PM α}{f f':List Nat→PM α}(hp:bp e p p')(hf:∀o,bp e (f o) (f' o)):bp e (fnO l p fun o=>pUp.bnd fun _=>f o) (fnO l p' fun o=>pUp.bnd fun _=>f' o) where
 rel {s s' t t' a a'} h e1 e2:=by
  obtain⟨-,e1⟩:=dR e1;obtain⟨-,e2⟩:=dR e2;rw[xm l fun x hx=>h.is (hl x hx)]at e2;rcases e1 with⟨k,e1⟩|⟨o,k,e1⟩<;>rcases e2 with⟨k',e2⟩|⟨o',k',e2⟩
  ·exact hp.rel h e1 e2
  ·rw[k]at k';cases k'
  ·rw[k]at k';cases k'
  ·rw[k]at k';cases k';obtain⟨_,u,h1,h2⟩:=ae e1;obtain⟨_,u',h1',h2'⟩:=ae e2;obtain⟨-,rfl⟩:=bJ h1;obtain⟨-,rfl⟩:=bJ h1';have hi:s.is o=true:=List.find?_some k;exact(hf o).rel (h.up (h.lt (hl o (List.mem_of_find?_eq_some k)).1 hi)) h2 h2'
 keep {s t a} h e1:=by
  obtain⟨-,e1⟩:=dR e1;rcases e1 with⟨k,e1⟩|⟨o,k,e1⟩
  ·exact hp.keep h e1
  ·have hi:s.is o=true:=List.find?_some k;rw[Qo h]at hi;cases hi
 keep' {s t a} h e1:=by
  obtain⟨-,e1⟩:=dR e1;rcases e1 with⟨k,e1⟩|⟨o,k,e1⟩
  ·exact hp.keep' h e1
  ·have hi:s.is o=true:=List.find?_some k;rw[Qo h]at hi;cases hi
theorem yq {α:Type}{c:PS→Bool}(hc:∀{s s'},lE e s s'→c s'=c s)(hlt:∀{s s'},lE e s s'→c s=true→s.ps<e){f f':Tk→PM α}(hf:∀t t',st t'=st t→bp e (f t) (f' t')){q q':PM α}(hq:bp e q q'):
  bp e (cnd c (pPeek.bnd fun t=>pUp.bnd fun _=>f t) q) (cnd c (pPeek.bnd fun t=>pUp.bnd fun _=>f' t) q') where
 rel {s s' t t' a a'} h e1 e2:=by
  obtain⟨-,e1⟩:=aH e1;obtain⟨-,e2⟩:=aH e2;rw[hc h]at e2;rcases e1 with⟨k,e1⟩|⟨k,e1⟩<;>rcases e2 with⟨k',e2⟩|⟨k',e2⟩
  ·obtain⟨x,u,h1,e1⟩:=ae e1;obtain⟨x',u',h1',e2⟩:=ae e2;obtain⟨-,h1⟩:=bb h1;obtain⟨-,h1'⟩:=bb h1';injection h1 with h1 h3;injection h1' with h1' h3';subst h1 h3 h1' h3';obtain⟨_,v,h1,h2⟩:=ae e1;obtain⟨_,v',h1',h2'⟩:=ae e2;obtain⟨-,rfl⟩:=bJ h1;obtain⟨-,rfl⟩:=bJ h1';have hl:=hlt h k;exact(hf _ _ (h.pk 0 hl)).rel (h.up hl) h2 h2'
  ·rw[k]at k';cases k'
  ·rw[k]at k';cases k'
  ·exact hq.rel h e1 e2
 keep {s t a} h e1:=by
  obtain⟨-,e1⟩:=aH e1;rcases e1 with⟨k,e1⟩|⟨k,e1⟩
  ·obtain⟨x,u,h1,e1⟩:=ae e1;obtain⟨-,h1⟩:=bb h1;injection h1 with h1 h3;subst h1 h3;obtain⟨_,v,h1,h2⟩:=ae e1;obtain⟨-,rfl⟩:=bJ h1;exact(hf _ _ rfl).keep (s:=s.up) h h2
  ·exact hq.keep h e1
 keep' {s t a} h e1:=by
  obtain⟨-,e1⟩:=aH e1;rcases e1 with⟨k,e1⟩|⟨k,e1⟩
  ·obtain⟨x,u,h1,e1⟩:=ae e1;obtain⟨-,h1⟩:=bb h1;injection h1 with h1 h3;subst h1 h3;obtain⟨_,v,h1,h2⟩:=ae e1;obtain⟨-,rfl⟩:=bJ h1;exact(hf _ _ rfl).keep' (s:=s.up) h h2
  ·exact hq.keep' h e1
theorem QL {α:Type}{c:PS→Bool}(hc:∀{s s'},lE e s s'→c s'=c s)(hlt:∀{s s'},lE e s s'→c s=true→s.ps<e){g:PS→α}(hg:∀{s s'},lE e s s'→s.ps<e→g s'=g s){q q':PM α}(hq:bp e q q'):
  bp e (cnd c (lf fun s=>(g s,s.up)) q) (cnd c (lf fun s=>(g s,s.up)) q') where
 rel {s s' t t' a a'} h e1 e2:=by
  obtain⟨-,e1⟩:=aH e1;obtain⟨-,e2⟩:=aH e2;rw[hc h]at e2;rcases e1 with⟨k,e1⟩|⟨k,e1⟩<;>rcases e2 with⟨k',e2⟩|⟨k',e2⟩
  ·obtain⟨-,e1⟩:=bb e1;obtain⟨-,e2⟩:=bb e2;injection e1 with h1 h3;injection e2 with h1' h3';subst h1 h3 h1' h3';have hl:=hlt h k;exact .inl ⟨hg h hl,h.up hl⟩
  ·rw[k]at k';cases k'
  ·rw[k]at k';cases k'
  ·exact hq.rel h e1 e2
 keep {s t a} h e1:=by
  obtain⟨-,e1⟩:=aH e1;rcases e1 with⟨k,e1⟩|⟨k,e1⟩
  ·obtain⟨-,e1⟩:=bb e1;injection e1 with h1 h3;subst h1 h3;rfl
  ·exact hq.keep h e1
 keep' {s t a} h e1:=by
  obtain⟨-,e1⟩:=aH e1;rcases e1 with⟨k,e1⟩|⟨k,e1⟩
  ·obtain⟨-,e1⟩:=bb e1;injection e1 with h1 h3;subst h1 h3;rfl
  ·exact hq.keep' h e1
theorem QK {α:Type}{p p':PM α}(hp:bp e p p')(l:List α):bp e (snoc p l) (snoc p' l):=hp.bnd fun x=>by
 have kk:∀{s t:PS} {a:List α},(bif decide (l.length<1000000)then some (l++[x],s)else none)=some (a,t)→t=s∧a=l++[x]:=fun {s t a} h=>by
  cases hb:decide (l.length<1000000)with
  |false=>rw[hb]at h;cases h
  |true=>
   rw[hb]at h;injection h with h;injection h with h1 h2;exact⟨h2.symm,h1.symm⟩
 refine⟨fun {s s' t t' a a'} h e1 e2=>?_,fun {s t a} h e1=>?_,fun {s t a} h e1=>?_⟩
 ·obtain⟨rfl,rfl⟩:=kk e1;obtain⟨rfl,rfl⟩:=kk e2;exact .inl ⟨rfl,h⟩
 ·obtain⟨rfl,-⟩:=kk e1;rfl
 ·obtain⟨rfl,-⟩:=kk e1;rfl
theorem FT:Wd [44]:=⟨by decide,by decide⟩
theorem yp {ex ex':PM Int}(he:bp e ex ex'):∀(q n:Nat) (l:List Int),bp e (j9 PS.begins (snoc ex) 16 q n l) (j9 PS.begins (snoc ex') 16 q n l)
 |0,n,l=>bp.none1 (fun _ e1=>(by cases e1))
 |q+1,n,l=>by
  unfold j9;have kl:∀{s:PS},s.ok=false→(bif !s.begins then s.fail 13 else bif Nat.beq n 16 then s.fail 5 else s).er=s.er:=fun {s} h=>by
   cases s.begins<;>cases Nat.beq n 16<;>simp only[Bool.not_true,Bool.not_false,cond_true,cond_false,oe h]
  refine bp.cok (bp.bnd (bp.lf (fun {s s'} h=>?_) kl kl) fun _=>(QK he l).bnd fun l'=>HV FT (yp he q (n+1) l') (bp.ret l')) (bp.ret l);show((()=())∧lE e (bif !s.begins then s.fail 13 else bif Nat.beq n 16 then s.fail 5 else s) (bif !s'.begins then s'.fail 13 else bif Nat.beq n 16 then s'.fail 5 else s'))∨(bif !s.begins then s.fail 13 else bif Nat.beq n 16 then s.fail 5 else s).ok=false∨_;rw[h.begins];cases s.begins with
  |false=>exact .inr (.inl (cU s (by decide)))
  |true=>
   cases Nat.beq n 16 with
   |true=>exact .inr (.inl (cU s (by decide)))
   |false=>exact .inl ⟨rfl,h⟩
end
end Go.Ab
end
section
namespace Go.Ab
open Go
set_option maxRecDepth 100000
noncomputable section
variable {e:Nat}
theorem lE.isLt {s s':PS}(h:lE e s s')(hl:s.ps<e)(x:List Nat):s'.is x=s.is x:=by
 obtain⟨a1,a2,_⟩:=ko (h.pk 0 hl);unfold PS.is;rw[a1,a2]
theorem XR {ex ex':PM Int}(he:bp e ex ex')(q:Nat)(l:List Int):bp e (B2 PS.begins (snoc ex) 16 q l) (B2 PS.begins (snoc ex') 16 q l) where
 rel {s s' t t' a a'} h e1 e2:=by
  have hg:=yp he q 0 l;unfold B2 at e1 e2;obtain⟨-,e1⟩:=aH e1;obtain⟨-,e2⟩:=aH e2;rcases lν s.ps e with hl|hl
  ·simp only[h.isLt hl]at e2;rcases e1 with⟨k,e1⟩|⟨k,e1⟩<;>rcases e2 with⟨k',e2⟩|⟨k',e2⟩
   ·exact(bp.ret l).rel h e1 e2
   ·rw[k]at k';cases k'
   ·rw[k]at k';cases k'
   ·exact hg.rel h e1 e2
  ·obtain⟨b1,b2⟩:=h.pe 0 (by have:=h.le;omega);obtain⟨a1,a2,_⟩:=ko (u:=⟨5,[59],0,0⟩) b1;have hn:s.is [41]=false:=by
    unfold PS.is;rw[a1,a2];decide
   have hb:s.begins=false:=by
    unfold PS.begins;rw[a1,a2];decide
   rcases e1 with⟨k,e1⟩|⟨k,e1⟩
   ·rw[hn]at k;cases k
   ·cases q with
    |zero=>cases e1
    |succ q=>
     unfold j9 at e1;rcases bx e1 with⟨k1,e1⟩|⟨k1,e1⟩
     ·obtain⟨_,u,h1,e1⟩:=ae e1;obtain⟨-,h1⟩:=bb h1;injection h1 with _ h1;rw[hb,Bool.not_false,cond_true]at h1;subst h1;have hf:=cU s (e:=13) (by decide);have kr:bp e ((snoc ex l).bnd fun a'=>cnd (fun s=>s.is [44]) (pUp.bnd fun _=>j9 PS.begins (snoc ex) 16 q (0+1) a') (.ret a')) ((snoc ex' l).bnd fun a'=>cnd (fun s=>s.is [44]) (pUp.bnd fun _=>j9 PS.begins (snoc ex') 16 q (0+1) a') (.ret a')):=(QK he l).bnd fun l'=>HV FT (yp he q (0+1) l') (bp.ret l')
      exact .inr (.inl (gK hf (kr.keep hf e1)))
     ·rw[h.ok]at k1;cases k1
 keep h e1:=by
  unfold B2 at e1;obtain⟨-,e1⟩:=aH e1;rcases e1 with⟨k,e1⟩|⟨k,e1⟩
  ·rw[Qo h]at k;cases k
  ·exact(yp he q 0 l).keep h e1
 keep' h e1:=by
  unfold B2 at e1;obtain⟨-,e1⟩:=aH e1;rcases e1 with⟨k,e1⟩|⟨k,e1⟩
  ·rw[Qo h]at k;cases k
  ·exact(yp he q 0 l).keep' h e1
theorem n59:([40]:List Nat)≠[59]∧([41]:List Nat)≠[59]:=⟨by decide,by decide⟩
theorem WH {ex ex':PM Int}(he:bp e ex ex')(q:Nat):bp e (oL ex q) (oL ex' q):=(HU n59.1).bnd fun _=>(XR he q []).bnd fun l=>(Jv n59.2).bnd fun _=>bp.ret l
theorem XS {f f':PM Int}(hf:bp e f f'){o:List Nat}(ho:o≠[59]):bp e (UC o f) (UC o f'):=(HU ho).bnd fun _=>(bp.cok hf (bp.ret 0)).bnd fun x=>r_dec.bnd fun _=>ui _
theorem UF {f f' p p':PM Int}(hf:bp e f f')(hp:bp e p p'):bp e (zw f p) (zw f' p'):=
 bp.cnd (fun h=>h.is ⟨by decide,by decide⟩) (XS hf (by decide)) (bp.cnd (fun h=>h.is ⟨by decide,by decide⟩) (XS hf (by decide)) hp)
theorem Ft {ex ex':PM Int}(he:bp e ex ex'){ops:List (List Nat)}(ho:∀x∈ops,Wd x):∀(q:Nat) (x:Int),bp e (eF ex ops q x) (eF ex' ops q x)
 |0,x=>bp.none1 (fun _ e1=>(by cases e1))
 |q+1,x=>by
  unfold eF;exact UG ho (bp.ret x) fun o=>he.bnd fun y=>(ui _).bnd fun z=>Ft he ho q z
theorem nK {ex ex':PM Int}(he:bp e ex ex'){ops:List (List Nat)}(ho:∀x∈ops,Wd x)(q:Nat):bp e (gu ex ops q) (gu ex' ops q):=he.bnd fun x=>Ft he ho q x
theorem UE {ex ex':PM Int}(he:bp e ex ex'):bp e (Fp ex) (Fp ex'):=he.bnd fun x=>UG (by unfold wZ Wd;decide) (bp.ret x) fun o=>he.bnd fun y=>ui _
theorem QJ {ex ex':PM Int}(he:bp e ex ex')(q:Nat):bp e (jv ex q) (jv ex' q):=by
 unfold jv;have w1:Wd [105,110,116,115]:=⟨by decide,by decide⟩
 have w2:Wd [115,116,114,105,110,103,115]:=⟨by decide,by decide⟩
 have w3:Wd [116,114,117,101]:=⟨by decide,by decide⟩
 have w4:Wd [102,97,108,115,101]:=⟨by decide,by decide⟩
 refine yq (f:=fun t=>ea ⟨2,t.s,vz,[]⟩) (f':=fun t=>ea ⟨2,t.s,vz,[]⟩) (fun {s s'} h=>?_) (fun {s s'} h k=>?_) (fun t t' ht=>?_) ?_
 ·rw[h.kd];rcases lν s.ps e with hl|hl
  ·rw[h.appl hl]
  ·obtain⟨b1,_⟩:=h.pe 0 (by have:=h.le;omega);obtain⟨a1,_⟩:=ko (u:=⟨5,[59],0,0⟩) b1;rw[a1];rfl
 ·rw[lγ]at k;exact h.ltk (by decide) k.1
 ·rw[(ko ht).2.1];exact ui _
 refine yq (f:=fun t=>(oL ex q).bnd fun l=>ea ⟨6,t.s,vz,l⟩) (f':=fun t=>(oL ex' q).bnd fun l=>ea ⟨6,t.s,vz,l⟩) (fun {s s'} h=>?_) (fun {s s'} h k=>?_) (fun t t' ht=>?_) ?_
 ·rw[h.kd,h.is w1,h.is w2]
 ·rw[mμ,mμ]at k;rcases k with k|k|k
  ·exact h.ltk (by decide) k
  ·exact h.lt w1.1 k
  ·exact h.lt w2.1 k
 ·rw[(ko ht).2.1];exact(WH he q).bnd fun l=>ui _
 refine yq (f:=fun t=>ea ⟨1,[],vI t.n,[]⟩) (f':=fun t=>ea ⟨1,[],vI t.n,[]⟩) (fun {s s'} h=>h.kd 3) (fun {s s'} h k=>h.ltk (by decide) k) (fun t t' ht=>?_) ?_
 ·rw[(ko ht).2.2];exact ui _
 refine bp.cnd (fun {s s'} h=>?_) (bp.bnd ?_ fun v=>ui _) ?_
 ·rw[h.kd,h.is w3,h.is w4]
 ·unfold iK;exact QL (fun h=>h.kd 4) (fun h k=>h.ltk (by decide) k) (fun {s s'} h hl=>by rw[(ko (h.pk 0 hl)).2.1]) (QL (fun h=>h.is w3) (fun h k=>h.lt w3.1 k) (fun _ _=>rfl) (QL (fun h=>h.is w4) (fun h k=>h.lt w4.1 k) (fun _ _=>rfl) (bp.none1 (fun _ e1=>(by cases e1)))))
 refine HV ⟨by decide,by decide⟩ (ui _) ?_
 exact bp.cnd (fun h=>h.is ⟨by decide,by decide⟩) ((HU n59.1).bnd fun _=>(bp.cok he (bp.ret 0)).bnd fun x=>(Jv n59.2).bnd fun _=>bp.ret x) (r_fail.bnd fun _=>bp.ret 0)
theorem oN (q:Nat):∀(f lvl:Nat),bp e (ku q f lvl) (ku q f lvl)
 |0,lvl=>bp.none1 (fun _ e1=>(by cases e1))
 |f+1,0=>nK (oN q f 1) (by unfold Wd;decide) q
 |f+1,1=>nK (oN q f 2) (by unfold Wd;decide) q
 |f+1,2=>UE (oN q f 3)
 |f+1,3=>nK (oN q f 4) (by unfold Wd;decide) q
 |f+1,4=>nK (oN q f 5) (by unfold Wd;decide) q
 |f+1,5=>UF (oN q f 5) (oN q f 6)
 |f+1,_+6=>QJ (oN q f 0) q
theorem CN (q:Nat):∀(f f' lvl:Nat),bp e (ku q f lvl) (ku q f' lvl)
 |0,f',lvl=>bp.none1 (oN (e:=e) q f' lvl).keep
 |f+1,0,lvl=>bp.none2 (oN (e:=e) q (f+1) lvl).keep
 |f+1,f'+1,0=>nK (CN q f f' 1) (by unfold Wd;decide) q
 |f+1,f'+1,1=>nK (CN q f f' 2) (by unfold Wd;decide) q
 |f+1,f'+1,2=>UE (CN q f f' 3)
 |f+1,f'+1,3=>nK (CN q f f' 4) (by unfold Wd;decide) q
 |f+1,f'+1,4=>nK (CN q f f' 5) (by unfold Wd;decide) q
 |f+1,f'+1,5=>UF (CN q f f' 5) (CN q f f' 6)
 |f+1,f'+1,_+6=>QJ (CN q f f' 0) q
end
end Go.Ab
end
section
namespace Go.Ab
open Go
set_option maxRecDepth 100000
noncomputable section
structure Nx (s:PS)(R:List Tk):Prop where
 ok:s.ok=true
 tk:s.tk.map st=(s.tk.map st).take s.ps++R
 ps:s.ps≤s.tk.length
theorem Nx.at {s:PS}{R:List Tk}(h:Nx s R)(i:Nat):(s.tk[s.ps+i]?).map st=R[i]?:=by
 rw[←lσ,h.tk,lξ (by rw[mγ,lθ];omega),mγ,lθ,Nat.min_eq_left h.ps];congr 1;omega
theorem Nx.pk {s:PS}{t:Tk}{R:List Tk}(h:Nx s (t::R))(hp:bZ t=true):st (s.peek 0)=t:=by
 rw[jw s h.ok,h.at 0];simp only[List.getElem?_cons_zero,hp,cond_true]
theorem Nx.up {s:PS}{t:Tk}{R:List Tk}(h:Nx s (t::R)):Nx s.up R:=by
 have hl:s.ps<s.tk.length:=by
  have:=congrArg List.length h.tk;have:=h.ps;simp[lπ,mγ]at*
  omega
 refine⟨h.ok,?_,hl⟩;show s.tk.map st=(s.tk.map st).take (s.ps+1)++R;have e:=h.at 0;rw[Nat.add_zero,List.getElem?_cons_zero,←lσ]at e;rw[List.take_add_one,e];simp only[Option.toList_some,lω,List.cons_append,List.nil_append];exact h.tk
def rb (t:Tk)(x:List Nat):Bool:=bZ t&&((eqI t.k 2||eqI t.k 5)&&cp t.s x)
theorem Nx.is {s:PS}{t:Tk}{R:List Tk}(h:Nx s (t::R))(hp:bZ t=true)(x:List Nat):s.is x=rb t x:=by
 obtain⟨a1,a2,_⟩:=ko (t:=s.peek 0) (u:=t) (by rw[h.pk hp];have:=h.pk hp;rw[←this];rfl);unfold PS.is rb;rw[a1,a2,hp,Bool.true_and]
theorem Nx.k {s:PS}{t:Tk}{R:List Tk}(h:Nx s (t::R))(hp:bZ t=true):(s.peek 0).k=t.k∧(s.peek 0).s=t.s∧(s.peek 0).n=t.n:=ko (by rw[h.pk hp];have:=h.pk hp;rw[←this];rfl)
theorem Nx.exp {s s':PS}{t:Tk}{R:List Tk}{x:List Nat}{u:Unit}(h:Nx s (t::R))(hi:rb t x=true)(e:gi x s=some (u,s')):s'=s.up∧Nx s.up R:=by
 obtain⟨-,e⟩:=bb e;injection e with _ e;have hp:bZ t=true:=by unfold rb at hi;rw[lγ]at hi;exact hi.1
 unfold PS.exp at e;rw[h.is hp,hi,cond_true]at e;exact⟨e.symm,h.up⟩
theorem Nx.name {s s':PS}{t:Tk}{R:List Tk}{n:List Nat}(h:Nx s (t::R))(hp:bZ t=true)(hk:t.k=1)(e:pName s=some (n,s')):n=t.s∧s'=s.up∧Nx s.up R:=by
 obtain⟨y,u,h1,e⟩:=ae e;obtain⟨rfl,rfl⟩:=aF e;obtain⟨-,h1⟩:=bb h1;unfold PS.take at h1;obtain⟨a1,a2,_⟩:=h.k hp;rw[a1,hk,show eqI (1:Int) 1=true from rfl,cond_true]at h1;injection h1 with h1 h2;exact⟨by rw[←h1];exact a2,h2.symm,h.up⟩
end
end Go.Ab
end
section
namespace Go.Ab
open Go
set_option maxRecDepth 100000
noncomputable section
theorem PO:hdK.map st=[⟨2,[97,99,116,111,114],0,0⟩,⟨1,[65],0,0⟩,⟨5,[123],0,0⟩,⟨2,[115,116,97,116,101],0,0⟩,⟨1,[120],0,0⟩,⟨5,[58],0,0⟩,⟨2,[105,110,116],0,0⟩,⟨5,[61],0,0⟩,⟨3,[48],0,0⟩,⟨5,[59],0,0⟩,⟨2,[109,101,116,104,111,100],0,0⟩,⟨1,[109],0,0⟩,⟨5,[40],0,0⟩,⟨5,[41],0,0⟩,⟨5,[123],0,0⟩,⟨1,[120],0,0⟩,⟨5,[61],0,0⟩]:=by kernel_rfl
theorem tG:tlK.map st=[⟨5,[59],0,0⟩,⟨5,[125],0,0⟩,⟨5,[125],0,0⟩]:=by kernel_rfl
theorem Nx.kind {s s':PS}{R:List Tk}{k:Int}(h:Nx s (⟨2,[105,110,116],0,0⟩::R))(e:pKind s=some (k,s')):k=1∧s'=s.up∧Nx s.up R:=by
 obtain⟨-,e⟩:=bb e;have hi:=h.is (by kernel_rfl) [105,110,116];unfold kindL eX at e;rw[hi,show rb ⟨2,[105,110,116],0,0⟩ [105,110,116]=true by kernel_rfl,cond_true]at e;injection e with e1 e2;exact⟨e1.symm,e2.symm,h.up⟩
theorem K3 {s s':PS}{R:List Tk}{q:Nat}{fe:Fe}(h:Nx s (⟨2,[115,116,97,116,101],0,0⟩::⟨1,[120],0,0⟩::⟨5,[58],0,0⟩::⟨2,[105,110,116],0,0⟩::⟨5,[61],0,0⟩::⟨3,[48],0,0⟩::⟨5,[59],0,0⟩::R))(e:p8 q s=some (fe,s')):
  fe=⟨[120],1,vI 0⟩∧s'=s.up.up.up.up.up.up.up∧Nx s' R:=by
 obtain⟨_,s1,e1,e⟩:=ae e;obtain⟨rfl,h⟩:=h.exp (by kernel_rfl) e1;obtain⟨n,s2,e2,e⟩:=ae e;obtain⟨rfl,rfl,h⟩:=h.name (by kernel_rfl) rfl e2;obtain⟨_,s3,e3,e⟩:=ae e;obtain⟨rfl,h⟩:=h.exp (by kernel_rfl) e3;obtain⟨k,s4,e4,e⟩:=ae e;obtain⟨rfl,rfl,h⟩:=h.kind e4;obtain⟨_,s5,e5,e⟩:=ae e;obtain⟨rfl,h⟩:=h.exp (by kernel_rfl) e5;obtain⟨_,s6,e6,e⟩:=ae e;obtain⟨-,e6⟩:=bb e6;injection e6 with _ e6;have hp:bZ ⟨3,[48],0,0⟩=true:=by kernel_rfl
 obtain⟨a1,a2,a3⟩:=h.k hp;have hf:iG 1 s.up.up.up.up.up=true:=by
  unfold iG;rw[a1];simp only[show eqI (1:Int) 0=false from rfl,show eqI (1:Int) 1=true from rfl,cond_true,cond_false,show eqI (3:Int) 3=true from rfl,Bool.or_true]
 rw[hf,Bool.not_true,cond_false]at e6;subst e6;obtain⟨v,s7,e7,e⟩:=ae e;have hv:v=vI 0∧s7=s.up.up.up.up.up.up:=by
  have no:∀x,rb ⟨3,[48],0,0⟩ x=false:=fun x=>rfl
  unfold yd iK at e7;obtain⟨-,e7⟩:=aH e7;rcases e7 with⟨k,e7⟩|⟨-,e7⟩
  ·rw[a1]at k;cases k
  obtain⟨-,e7⟩:=aH e7;rcases e7 with⟨k,e7⟩|⟨-,e7⟩
  ·rw[h.is hp,no]at k;cases k
  obtain⟨-,e7⟩:=aH e7;rcases e7 with⟨k,e7⟩|⟨-,e7⟩
  ·rw[h.is hp,no]at k;cases k
  obtain⟨-,e7⟩:=aH e7;rcases e7 with⟨k,e7⟩|⟨-,e7⟩
  ·rw[h.is hp,no]at k;cases k
  obtain⟨-,e7⟩:=aH e7;rcases e7 with⟨k,e7⟩|⟨-,e7⟩
  ·rw[h.is hp,no]at k;cases k
  obtain⟨m,u,e8,e7⟩:=ae e7;obtain⟨rfl,rfl⟩:=aF e7;unfold pInt at e8;obtain⟨-,e8⟩:=aH e8;rcases e8 with⟨k,e8⟩|⟨-,e8⟩
  ·rw[h.is hp,no]at k;cases k
  obtain⟨y,u2,e9,e8⟩:=ae e8;obtain⟨rfl,rfl⟩:=aF e8;obtain⟨-,e9⟩:=bb e9;unfold PS.take at e9;rw[a1,show eqI (3:Int) 3=true from rfl,cond_true]at e9;injection e9 with e9 e10;rw[←e9,a3];exact⟨rfl,e10.symm⟩
 obtain⟨rfl,rfl⟩:=hv;obtain⟨_,s8,e8,e⟩:=ae e;obtain⟨rfl,h⟩:=h.up.exp (by kernel_rfl) e8;obtain⟨rfl,rfl⟩:=aF e;exact⟨rfl,rfl,h⟩
end
end Go.Ab
end
section
namespace Go.Ab
open Go
set_option maxRecDepth 100000
noncomputable section
structure Kk (f q q1 q2:Nat)(v:Int)(w:PS)(x:Ac)(t:PS):Prop where
 ex:∃(i b:Int) (l:List Int) (ms:List Me) (w1 w2 w3 t4:PS),
  lU ⟨9,[120],vz,[v]⟩ w=some (i,w1)∧gt (mm (ku q f 0) (Ku q f) q) q1 [i] w1=some (l,w2)∧
  cok ((ea ⟨18,[],vz,l⟩).bnd fun x=>pLim.bnd fun _=>(gM [125]).bnd fun _=> .ret x) (.ret 0) w2=some (b,w3)∧
  eG [109,101,116,104,111,100] 16 (yf f q) q2 [⟨[109],[],0,w3.nd⟩] {w3 with tt:=aj .i64 (w3.tt+(w3.nd.length:Int))}=some (ms,t4)∧
  gi [125] t4=some ((),t)∧x=⟨[65],[⟨[120],1,vI 0⟩],ms⟩
structure YA (s u:PS)(R:List Tk):Prop where
 nx:Nx u R
 tk:u.tk=s.tk
 en:u.en=s.en
 ps:u.ps=s.ps+17
 ne:u.ne=1
 nd:u.nd=[]
 tt:u.tt=s.tt
theorem Nx.body {s:PS}{R:List Tk}(h:Nx s R)(nd:List No)(ne:Int):Nx {s with nd:=nd,ne:=ne} R:=⟨h.ok,h.tk,h.ps⟩
set_option maxHeartbeats 2000000 in
theorem zS {f q:Nat}{s t:PS}{R:List Tk}{x:Ac}(h:Nx s (hdK.map st++R))(e:ju f q s=some (x,t)):
  ∃(q1 q2:Nat) (u w:PS) (v:Int),q=q1+1∧YA s u R∧cnd (fun s=>s.is [99,97,108,108]) (rA (ku q f 0) q) (ku q f 0) u=some (v,w)∧Kk f q q1 q2 v w x t:=by
 rw[PO]at h;simp only[List.cons_append,List.nil_append]at h;obtain⟨_,s1,e1,e⟩:=ae e;obtain⟨rfl,h⟩:=h.exp (by kernel_rfl) e1;obtain⟨n,s2,e2,e⟩:=ae e;obtain⟨rfl,rfl,h⟩:=h.name (by kernel_rfl) rfl e2;obtain⟨_,s3,e3,e⟩:=ae e;obtain⟨rfl,h⟩:=h.exp (by kernel_rfl) e3;obtain⟨fs,s4,e4,e⟩:=ae e
 -- the field
 have hf:fs=[⟨[120],1,vI 0⟩]∧s4=s.up.up.up.up.up.up.up.up.up.up∧∃j,q=j+1:=by
  cases q with
  |zero=>cases e4
  |succ q=>
   unfold eG at e4;obtain⟨-,e4⟩:=aH e4;rcases e4 with⟨-,e4⟩|⟨k,-⟩
   ·obtain⟨_,a1,b1,e4⟩:=ae e4;obtain⟨-,b1⟩:=bb b1;injection b1 with _ b1;rw[show Nat.beq ([]:List Fe).length 8=false from rfl,cond_false]at b1;subst b1;obtain⟨l1,a2,b2,e4⟩:=ae e4;obtain⟨g,c1,c2,rfl⟩:=cg b2;obtain⟨rfl,rfl,h⟩:=K3 h c1;cases q with
    |zero=>cases e4
    |succ q=>
     unfold eG at e4;obtain⟨-,e4⟩:=aH e4;rcases e4 with⟨k,-⟩|⟨-,e4⟩
     ·rw[h.is (by kernel_rfl)]at k;rw[show rb ⟨2,[109,101,116,104,111,100],0,0⟩ [115,116,97,116,101]=false by kernel_rfl]at k;cases k
     ·obtain⟨rfl,rfl⟩:=aF e4;exact⟨rfl,rfl,_,rfl⟩
   ·rw[h.is (by kernel_rfl),show rb ⟨2,[115,116,97,116,101],0,0⟩ [115,116,97,116,101]=true by kernel_rfl]at k;cases k
 obtain⟨rfl,rfl,q1,rfl⟩:=hf;have h:=h.up.up.up.up.up.up.up;obtain⟨ms,s5,e5,e⟩:=ae e;obtain⟨_,s6,e6,e⟩:=ae e;obtain⟨rfl,rfl⟩:=aF e;unfold eG at e5;obtain⟨-,e5⟩:=aH e5;rcases e5 with⟨-,e5⟩|⟨k,-⟩
 ·obtain⟨_,a1,b1,e5⟩:=ae e5;obtain⟨-,b1⟩:=bb b1;injection b1 with _ b1;rw[show Nat.beq ([]:List Me).length 16=false from rfl,cond_false]at b1;subst b1;obtain⟨l1,a2,b2,e5⟩:=ae e5;obtain⟨g,c1,c2,rfl⟩:=cg b2;obtain⟨_,m1,d1,c1⟩:=ae c1;obtain⟨rfl,h⟩:=h.exp (by kernel_rfl) d1;obtain⟨mn,m2,d2,c1⟩:=ae c1;obtain⟨rfl,rfl,h⟩:=h.name (by kernel_rfl) rfl d2;obtain⟨_,m3,d3,c1⟩:=ae c1;obtain⟨rfl,h⟩:=h.exp (by kernel_rfl) d3;obtain⟨pp,m4,d4,c1⟩:=ae c1;unfold B2 at d4;obtain⟨-,d4⟩:=aH d4;rcases d4 with⟨-,d4⟩|⟨k,-⟩;case inr=>rw[h.is (by kernel_rfl),show rb ⟨5,[41],0,0⟩ [41]=true by kernel_rfl]at k;cases k
  obtain⟨rfl,rfl⟩:=aF d4;obtain⟨_,m5,d5,c1⟩:=ae c1;obtain⟨rfl,h⟩:=h.exp (by kernel_rfl) d5;obtain⟨kk,m6,d6,c1⟩:=ae c1;obtain⟨-,d6⟩:=aH d6;rcases d6 with⟨k,-⟩|⟨-,d6⟩
  ·rw[h.is (by kernel_rfl),show rb ⟨5,[123],0,0⟩ [58]=false by kernel_rfl]at k;cases k
  obtain⟨rfl,rfl⟩:=aF d6;obtain⟨ns,m7,d7,c1⟩:=ae c1;obtain⟨rfl,rfl⟩:=aF c1;unfold Fo at d7;split at d7
  ·cases d7
  rename_i b w3 hb;injection d7 with d7;injection d7 with d7 d8;subst d7 d8;have h:=h.body [] 0;obtain⟨_,n1,f1,hb⟩:=ae hb;obtain⟨-,f1⟩:=bb f1;injection f1 with _ f1;have ho:=h.is (by kernel_rfl) [123];rw[show rb ⟨5,[123],0,0⟩ [123]=true by kernel_rfl]at ho;unfold PS.open PS.opn1 PS.exp at f1;rw[ho]at f1;simp only[show eqI (0:Int) 24=false from rfl,Bool.and_false,cond_false,ho,cond_true]at f1;have h1:=h.up;have hn:Nx n1 (⟨1,[120],0,0⟩::⟨5,[61],0,0⟩::R):=by rw[←f1];exact⟨h1.ok,h1.tk,h1.ps⟩
  have hnd:n1.nd=[]:=by rw[←f1];rfl
  have hne:n1.ne=1:=by rw[←f1];exact gm (n:=0+1) (by decide) (by decide)
  have htk:n1.tk=s.tk:=by rw[←f1];rfl
  have hen:n1.en=s.en:=by rw[←f1];rfl
  have hps:n1.ps=s.ps+15:=by rw[←f1];rfl
  have htt:n1.tt=s.tt:=by rw[←f1];rfl
  clear f1;obtain⟨l,w2,f2,hb⟩:=ae hb;unfold gt at f2;rcases bx f2 with⟨-,f2⟩|⟨k,-⟩;case inr=>rw[hn.ok]at k;cases k
  obtain⟨-,f2⟩:=aH f2;rcases f2 with⟨k,-⟩|⟨-,f2⟩;case inl=>rw[hn.is (by kernel_rfl),show rb ⟨1,[120],0,0⟩ [125]=false by kernel_rfl]at k;cases k
  obtain⟨l2,n3,g1,f2⟩:=ae f2;obtain⟨i,g2,g3,rfl⟩:=cg g1;unfold mm at g2;obtain⟨-,g2⟩:=aH g2;rcases g2 with⟨k,-⟩|⟨-,g2⟩;case inl=>rw[hn.is (by kernel_rfl),show rb ⟨1,[120],0,0⟩ [108,101,116]=false by kernel_rfl]at k;cases k
  obtain⟨-,g2⟩:=aH g2;rcases g2 with⟨-,g2⟩|⟨k,-⟩;case inr=>rw[(hn.k (by kernel_rfl)).1]at k;cases k
  obtain⟨vn,n4,g4,g2⟩:=ae g2;obtain⟨rfl,rfl,hn⟩:=hn.name (by kernel_rfl) rfl g4;obtain⟨v,w,g5,g2⟩:=ae g2;obtain⟨_,n5,g6,g5⟩:=ae g5;obtain⟨rfl,hn⟩:=hn.exp (by kernel_rfl) g6;refine⟨_,q1,n1.up.up,w,v,rfl,⟨hn,htk,hen,by show n1.ps+1+1=_;omega,hne,hnd,htt⟩,g5,⟨⟨i,b,l,ms,n3,w2,w3,s5,g2,f2,hb,e5,e6,rfl⟩⟩⟩
 ·rw[h.is (by kernel_rfl),show rb ⟨2,[109,101,116,104,111,100],0,0⟩ [109,101,116,104,111,100]=true by kernel_rfl]at k;cases k
end
end Go.Ab
end
section
namespace Go.Ab
open Go
set_option maxRecDepth 100000
noncomputable section
theorem Hz {s s':PS}{R:List Tk}{x:No}{i:Int}(h:Nx s R)(e:ea x s=some (i,s')):i=(s.nd.length:Int)∧s'={s with nd:=s.nd++[x]}∧Nx s' R:=by
 obtain⟨-,-,e⟩:=jJ e;unfold PS.add at e;rw[h.ok]at e;injection e with e1 e2;subst e1 e2;exact⟨rfl,rfl,⟨h.ok,h.tk,h.ps⟩⟩
theorem Qt {s s':PS}{R:List Tk}{x:No}{i:Int}(h:Nx s (⟨5,[59],0,0⟩::R))(e:lU x s=some (i,s')):i=(s.nd.length:Int)∧s'={s.up with nd:=s.nd++[x]}∧Nx s' R:=by
 obtain⟨_,s1,e1,e⟩:=ae e;obtain⟨rfl,h⟩:=h.exp (by kernel_rfl) e1;exact Hz h e
theorem Qs {st':PM Int}{q:Nat}{l l':List Int}{s s':PS}{R:List Tk}(h:Nx s (⟨5,[125],0,0⟩::R))(e:gt st' q l s=some (l',s')):l'=l∧s'=s:=by
 cases q with
 |zero=>cases e
 |succ q=>
  unfold gt at e;rcases bx e with⟨-,e⟩|⟨k,-⟩
  ·obtain⟨-,e⟩:=aH e;rcases e with⟨-,e⟩|⟨k,-⟩
   ·exact aF e |>.imp Eq.symm Eq.symm
   ·rw[h.is (by kernel_rfl),show rb ⟨5,[125],0,0⟩ [125]=true by kernel_rfl]at k;cases k
  ·rw[h.ok]at k;cases k
def Lp (nd:List No)(tt:Int):Bool:=bo 1500 (aj .i64 (tt+(nd.length:Int)))||bo 24 (iH nd)
theorem Qu {s s':PS}(e:pLim s=some ((),s')):s'=bif Lp s.nd s.tt then s.fail 5 else s:=by
 unfold pLim at e;cases hb:(decide (s.nd.length<10000)&&decide (0<s.nd.length)&&s.nd.all (sY s.nd.length))with
 |false=>rw[hb]at e;cases e
 |true=>
  rw[hb,cond_true]at e;injection e with e;injection e with _ e;subst e;unfold Lp;cases bo 1500 (aj .i64 (s.tt+(s.nd.length:Int)))<;>cases bo 24 (iH s.nd)<;>rfl
def me (nd:List No)(v:Int):List No:=nd++[⟨9,[120],vz,[v]⟩]++[⟨18,[],vz,[(nd.length:Int)]⟩]
theorem FL {f q q1 q2:Nat}{v:Int}{w t:PS}{x:Ac}(h:Nx w (tlK.map st))(hT:Kk f q q1 q2 v w x t)(hl:Lp (me w.nd v) w.tt=false):x=⟨[65],[⟨[120],1,vI 0⟩],[⟨[109],[],0,me w.nd v⟩]⟩∧t.ok=true∧t.ps=w.ps+3:=by
 rw[tG]at h;obtain⟨i,b,l,ms,w1,w2,w3,t4,e1,e2,e3,e4,e5,rfl⟩:=hT.ex;obtain⟨rfl,hw1,h⟩:=Qt h e1;obtain⟨rfl,rfl⟩:=Qs h e2;rcases bx e3 with⟨-,e3⟩|⟨k,-⟩;case inr=>rw[h.ok]at k;cases k
 obtain⟨y,a1,b1,e3a⟩:=ae e3;clear e3;obtain⟨rfl,ha1,h⟩:=Hz h b1;have n1:a1.nd=me w.nd v:=by rw[ha1,hw1];rfl
 have n2:a1.tt=w.tt:=by rw[ha1,hw1];rfl
 have n3:a1.ps=w.ps+1:=by rw[ha1,hw1];rfl
 clear ha1 hw1;obtain⟨_,a2,b2,e3b⟩:=ae e3a;clear e3a;replace b2:=Qu b2;rw[n1,n2,hl,cond_false]at b2;subst b2;obtain⟨_,a3,b3,e3c⟩:=ae e3b;clear e3b;obtain⟨rfl,rfl⟩:=aF e3c;obtain⟨-,b3⟩:=bb b3;injection b3 with _ b3;have hi:=h.is (by kernel_rfl) [125];rw[show rb ⟨5,[125],0,0⟩ [125]=true by kernel_rfl]at hi;have hu:=h.up;unfold PS.close PS.exp at b3;simp only[hi,cond_true]at b3;have m1:Nx a3 [⟨5,[125],0,0⟩]:=by rw[←b3];exact⟨hu.ok,hu.tk,hu.ps⟩
 have m2:a3.nd=me w.nd v:=by rw[←b3];exact n1
 have m3:a3.ps=w.ps+2:=by rw[←b3];show a2.ps+1=_;omega
 clear b3;rw[m2]at e4;have m4:Nx {a3 with tt:=aj .i64 (a3.tt+((me w.nd v).length:Int)),nd:=me w.nd v} [⟨5,[125],0,0⟩]:=⟨m1.ok,m1.tk,m1.ps⟩;cases q2 with
 |zero=>cases e4
 |succ q2=>
  unfold eG at e4;obtain⟨-,e4⟩:=aH e4;rcases e4 with⟨k,-⟩|⟨-,e4⟩
  ·rw[m4.is (by kernel_rfl),show rb ⟨5,[125],0,0⟩ [109,101,116,104,111,100]=false by kernel_rfl]at k;cases k
  ·obtain⟨rfl,rfl⟩:=aF e4;obtain⟨rfl,g⟩:=m4.exp (by kernel_rfl) e5;exact⟨rfl,g.ok,by show a3.ps+1=_;omega⟩
theorem Q0 {f q q1 q2:Nat}{v:Int}{w t:PS}{x:Ac}(h:Nx w (tlK.map st))(hT:Kk f q q1 q2 v w x t)(hl:Lp (me w.nd v) w.tt=true):t.ok=false:=by
 rw[tG]at h;obtain⟨i,b,l,ms,w1,w2,w3,t4,e1,e2,e3,e4,e5,rfl⟩:=hT.ex;obtain⟨rfl,hw1,h⟩:=Qt h e1;obtain⟨rfl,rfl⟩:=Qs h e2;rcases bx e3 with⟨-,e3⟩|⟨k,-⟩;case inr=>rw[h.ok]at k;cases k
 obtain⟨y,a1,b1,e3a⟩:=ae e3;clear e3;obtain⟨rfl,ha1,h⟩:=Hz h b1;have n1:a1.nd=me w.nd v:=by rw[ha1,hw1];rfl
 have n2:a1.tt=w.tt:=by rw[ha1,hw1];rfl
 clear ha1 hw1;obtain⟨_,a2,b2,e3b⟩:=ae e3a;clear e3a;replace b2:=Qu b2;rw[n1,n2,hl,cond_true]at b2;have k2:a2.ok=false:=by rw[b2];exact cU a1 (by decide)
 obtain⟨_,a3,b3,e3c⟩:=ae e3b;clear e3b;obtain⟨rfl,rfl⟩:=aF e3c;obtain⟨-,b3⟩:=bb b3;injection b3 with _ b3;have k3:a3.ok=false:=gK k2 (by rw[←b3];exact fj k2 _);cases q2 with
 |zero=>cases e4
 |succ q2=>
  unfold eG at e4;obtain⟨-,e4⟩:=aH e4;rcases e4 with⟨k,-⟩|⟨-,e4⟩
  ·exact absurd ((Qo (s:={a3 with tt:=aj .i64 (a3.tt+(a3.nd.length:Int))}) k3 _).symm.trans k) (by decide)
  ·obtain⟨rfl,rfl⟩:=aF e4;obtain⟨-,e5⟩:=bb e5;injection e5 with _ e5;exact gK (s:={a3 with tt:=aj .i64 (a3.tt+(a3.nd.length:Int))}) k3 (by rw[←e5];exact fj (s:={a3 with tt:=aj .i64 (a3.tt+(a3.nd.length:Int))}) k3 _)
end
end Go.Ab
end
section
namespace Go.Ab
open Go
set_option maxRecDepth 100000
noncomputable section
theorem AT {f q q1 q2:Nat}{v:Int}{w t:PS}{x:Ac}(hT:Kk f q q1 q2 v w x t):∃i w1,lU ⟨9,[120],vz,[v]⟩ w=some (i,w1)∧(w1.ok=false→t.er=w1.er):=by
 obtain⟨i,b,l,ms,w1,w2,w3,t4,e1,e2,e3,e4,e5,rfl⟩:=hT.ex;refine⟨i,w1,e1,fun k1=>?_⟩
 have h2:w2=w1:=by
  cases q1 with
  |zero=>cases e2
  |succ q1=>
   unfold gt at e2;rcases bx e2 with⟨k,-⟩|⟨-,e2⟩
   ·rw[k1]at k;cases k
   ·exact(aF e2).2.symm
 subst h2;have h3:w3=w2:=by
  rcases bx e3 with⟨k,-⟩|⟨-,e3⟩
  ·rw[k1]at k;cases k
  ·exact(aF e3).2.symm
 subst h3;cases q2 with
 |zero=>cases e4
 |succ q2=>
  unfold eG at e4;obtain⟨-,e4⟩:=aH e4;rcases e4 with⟨k,-⟩|⟨-,e4⟩
  ·exact absurd ((Qo (s:={w3 with tt:=aj .i64 (w3.tt+(w3.nd.length:Int))}) k1 _).symm.trans k) (by decide)
  ·obtain⟨rfl,rfl⟩:=aF e4;obtain⟨-,e5⟩:=bb e5;injection e5 with _ e5;rw[←e5];exact fj (s:={w3 with tt:=aj .i64 (w3.tt+(w3.nd.length:Int))}) k1 _
theorem AS {f q q1 q2:Nat}{v:Int}{w t:PS}{x:Ac}(hk:w.ok=false)(hT:Kk f q q1 q2 v w x t):t.er=w.er:=by
 obtain⟨i,w1,e1,h⟩:=AT hT;obtain⟨_,s1,e2,e1⟩:=ae e1;obtain⟨-,e2⟩:=bb e2;injection e2 with _ e2;have k1:s1.er=w.er:=by rw[←e2];exact fj hk _
 have k2:=qF (gK hk k1) e1;exact(h (gK hk (k2.trans k1))).trans (k2.trans k1)
theorem Md {f q q1 q2:Nat}{v:Int}{w t:PS}{x:Ac}(hs:w.is [59]=false)(hT:Kk f q q1 q2 v w x t):t.ok=false:=by
 obtain⟨i,w1,e1,h⟩:=AT hT;obtain⟨_,s1,e2,e1⟩:=ae e1;obtain⟨-,e2⟩:=bb e2;injection e2 with _ e2;have k1:s1.ok=false:=by rw[←e2];unfold PS.exp;rw[hs,cond_false];exact cU w (by decide)
 have k2:=gK k1 (qF k1 e1);exact gK k2 (h k2)
def oprL:List (List Nat):=[[124,124],[38,38],[61,61],[33,61],[60],[60,61],[62],[62,61],[43],[45],[42],[47],[37]]
def Quiet (s:PS):Prop:=∀o∈oprL,s.is o=false
theorem Quiet.find {s:PS}(h:Quiet s){l:List (List Nat)}(hl:∀o∈l,o∈oprL):l.find? s.is=none:=List.find?_eq_none.2 fun o ho=>by rw[h o (hl o ho)];decide
theorem rh {ex:PM Int}{ops:List (List Nat)}{q:Nat}{s w:PS}{v:Int}(hl:∀o∈ops,o∈oprL)(e:gu ex ops q s=some (v,w)):∃v0 w0,ex s=some (v0,w0)∧(Quiet w0→v=v0∧w=w0):=by
 obtain⟨v0,w0,e1,e⟩:=ae e;refine⟨v0,w0,e1,fun h=>?_⟩
 cases q with
 |zero=>cases e
 |succ q=>
  unfold eF at e;obtain⟨-,e⟩:=dR e;rcases e with⟨-,e⟩|⟨o,k,-⟩
  ·obtain⟨rfl,rfl⟩:=aF e;exact⟨rfl,rfl⟩
  ·rw[h.find hl]at k;cases k
theorem Ss {ex:PM Int}{s w:PS}{v:Int}(e:Fp ex s=some (v,w)):∃v0 w0,ex s=some (v0,w0)∧(Quiet w0→v=v0∧w=w0):=by
 obtain⟨v0,w0,e1,e⟩:=ae e;refine⟨v0,w0,e1,fun h=>?_⟩
 obtain⟨-,e⟩:=dR e;rcases e with⟨-,e⟩|⟨o,k,-⟩
 ·obtain⟨rfl,rfl⟩:=aF e;exact⟨rfl,rfl⟩
 ·rw[h.find (by unfold wZ oprL;decide)]at k;cases k
theorem S0 {q f:Nat}{u w:PS}{v:Int}(h1:u.is [45]=false)(h2:u.is [33]=false)(e:ku q f 0 u=some (v,w)):∃f0 v0 w0,f=f0+7∧jv (ku q f0 0) q u=some (v0,w0)∧(Quiet w0→v=v0∧w=w0):=by
 cases f with
 |zero=>cases e
 |succ f=>
 obtain⟨v1,w1,e1,g1⟩:=rh (by unfold oprL;decide) e;cases f with
 |zero=>cases e1
 |succ f=>
 obtain⟨v2,w2,e2,g2⟩:=rh (by unfold oprL;decide) e1;cases f with
 |zero=>cases e2
 |succ f=>
 obtain⟨v3,w3,e3,g3⟩:=Ss e2;cases f with
 |zero=>cases e3
 |succ f=>
 obtain⟨v4,w4,e4,g4⟩:=rh (by unfold oprL;decide) e3;cases f with
 |zero=>cases e4
 |succ f=>
 obtain⟨v5,w5,e5,g5⟩:=rh (by unfold oprL;decide) e4;cases f with
 |zero=>cases e5
 |succ f=>
 replace e5:zw (ku q f 5) (ku q f 6) u=some (v5,w5):=e5;unfold zw at e5;obtain⟨-,e6⟩:=aH e5;rcases e6 with⟨k,-⟩|⟨-,e6⟩;case inl=>rw[h1]at k;cases k
 obtain⟨-,e7⟩:=aH e6;rcases e7 with⟨k,-⟩|⟨-,e7⟩;case inl=>rw[h2]at k;cases k
 cases f with
 |zero=>cases e7
 |succ f=>
 refine⟨f,v5,w5,rfl,e7,fun h=>?_⟩
 obtain⟨rfl,rfl⟩:=g5 h;obtain⟨rfl,rfl⟩:=g4 h;obtain⟨rfl,rfl⟩:=g3 h;obtain⟨rfl,rfl⟩:=g2 h;exact g1 h
theorem Nx.move {s t:PS}{A R:List Tk}(h:Nx s (A++R))(htk:t.tk=s.tk)(hps:t.ps=s.ps+A.length)(hok:t.ok=true):Nx t R:=by
 have hl:=h.ps;have hd:(s.tk.map st).drop s.ps=A++R:=by
  have e:=h.tk;have e2:=(List.take_append_drop s.ps (s.tk.map st)).trans e;exact List.append_cancel_left e2
 have hlen:A.length+R.length+s.ps=s.tk.length:=by
  have:=congrArg List.length hd;rw[lτ,lθ,lπ]at this;omega
 refine⟨hok,?_,by rw[htk,hps];omega⟩
 rw[htk,hps,List.take_add,hd,List.take_left,lω];exact h.tk
theorem Nx.isA {s:PS}{t:Tk}{R:List Tk}(h:Nx s (t::R))(x:List Nat):s.is x=rb t x:=by
 cases hp:bZ t with
 |true=>exact h.is hp x
 |false=>
  have e:=jw s h.ok 0;rw[h.at 0]at e;simp only[List.getElem?_cons_zero,hp,cond_false]at e;obtain⟨a1,a2,_⟩:=ko (t:=s.peek 0) (u:=tk0) e;unfold PS.is rb;rw[a1,hp,Bool.false_and];rfl
theorem HO {ex:PM Int}{q:Nat}{u w:PS}{v:Int}{R:List Tk}(h:Nx u (⟨5,[40],0,0⟩::R))(hne:u.ne=1)(e:jv ex q u=some (v,w)):∃y,ex {u.up with ne:=2}=some (v,y)∧w=y.close [41]:=by
 have hp:bZ ⟨5,[40],0,0⟩=true:=by kernel_rfl
 have a1:=(h.k hp).1;have hx:=h.is hp;have n1:eqI (5:Int) 1=false:=rfl;have n3:eqI (5:Int) 3=false:=rfl;have n4:eqI (5:Int) 4=false:=rfl;have w1:rb ⟨5,[40],0,0⟩ [105,110,116,115]=false:=by kernel_rfl
 have w2:rb ⟨5,[40],0,0⟩ [115,116,114,105,110,103,115]=false:=by kernel_rfl
 have w3:rb ⟨5,[40],0,0⟩ [116,114,117,101]=false:=by kernel_rfl
 have w4:rb ⟨5,[40],0,0⟩ [102,97,108,115,101]=false:=by kernel_rfl
 have w5:rb ⟨5,[40],0,0⟩ [115,101,108,102]=false:=by kernel_rfl
 have w6:rb ⟨5,[40],0,0⟩ [40]=true:=by kernel_rfl
 unfold jv at e;obtain⟨-,e⟩:=aH e;rcases e with⟨k,-⟩|⟨-,e⟩;case inl=>rw[a1,n1,Bool.false_and]at k;cases k
 obtain⟨-,e⟩:=aH e;rcases e with⟨k,-⟩|⟨-,e⟩;case inl=>rw[a1,n1,hx,hx,w1,w2]at k;cases k
 obtain⟨-,e⟩:=aH e;rcases e with⟨k,-⟩|⟨-,e⟩;case inl=>rw[a1,n3]at k;cases k
 obtain⟨-,e⟩:=aH e;rcases e with⟨k,-⟩|⟨-,e⟩;case inl=>rw[a1,n4,hx,hx,w3,w4]at k;cases k
 obtain⟨-,e⟩:=aH e;rcases e with⟨k,-⟩|⟨-,e⟩;case inl=>rw[hx,w5]at k;cases k
 obtain⟨-,e⟩:=aH e;rcases e with⟨-,e⟩|⟨k,-⟩;case inr=>rw[hx,w6]at k;cases k
 obtain⟨_,s1,e1,e⟩:=ae e;obtain⟨-,e1⟩:=bb e1;injection e1 with _ e1;have ho:=hx [40];rw[w6]at ho;unfold PS.open PS.opn1 PS.exp at e1;simp only[ho,hne,show eqI (1:Int) 24=false from rfl,Bool.and_false,cond_false,cond_true]at e1;have hs:s1={u.up with ne:=2}:=by
  rw[←e1];show({u.up with ne:=aj .i64 (u.ne+1)}:PS)=_;rw[hne,show aj .i64 (1+1)=2 from gm (n:=1+1) (by decide) (by decide)]
 subst hs;clear e1;obtain⟨x,y,e2,e⟩:=ae e;obtain⟨_,z,e3,e⟩:=ae e;obtain⟨rfl,rfl⟩:=aF e;obtain⟨-,e3⟩:=bb e3;injection e3 with _ e3;rcases bx e2 with⟨-,e2⟩|⟨k,-⟩
 ·exact⟨y,e2,e3.symm⟩
 ·exact absurd (h.ok.symm.trans k) (by decide)
theorem LJ {q f:Nat}{u w:PS}{v:Int}{R:List Tk}(h:Nx u (⟨5,[40],0,0⟩::R))(hne:u.ne=1)(e:ku q f 0 u=some (v,w)):
  ∃f0 b y,f=f0+7∧ku q f0 0 {u.up with ne:=2}=some (b,y)∧(Quiet (y.close [41])→v=b∧w=y.close [41]):=by
 have hx:=h.isA;obtain⟨f0,v0,w0,hf,e1,g⟩:=S0 (by rw[hx];kernel_rfl) (by rw[hx];kernel_rfl) e;obtain⟨y,e2,rfl⟩:=HO h hne e1;exact⟨f0,v0,y,hf,e2,g⟩
end
end Go.Ab
end
section
namespace Go.Ab
open Go
set_option maxRecDepth 100000
noncomputable section
def Xb (v:Va):Prop:=v.I=[]∧v.L=[]
def Nv (s:PS):Prop:=∀x∈s.nd,Xb x.v
structure Pr {α:Type}(Q:α→Prop)(p:PM α):Prop where
 h:∀{s t:PS} {a:α},Nv s→p s=some (a,t)→Nv t∧Q a
abbrev vc {α:Type}(p:PM α):Prop:=Pr (fun _=>True) p
theorem Pr.bnd {α β:Type}{p:PM α}{f:α→PM β}{Q:α→Prop}{S:β→Prop}(hp:Pr Q p)(hf:∀a,Q a→Pr S (f a)):Pr S (p.bnd f):=⟨fun h e=>by
 obtain⟨b,u,h1,h2⟩:=ae e;obtain⟨k1,k2⟩:=hp.h h h1;exact(hf b k2).h k1 h2⟩
theorem Pr.ret {α:Type}{Q:α→Prop}{a:α}(h:Q a):Pr Q (PM.ret a):=⟨fun hn e=>by
 obtain⟨rfl,rfl⟩:=aF e;exact⟨hn,h⟩⟩
theorem Pr.none {α:Type}{Q:α→Prop}:Pr Q (fun _=>(none:Option (α×PS))):=⟨fun _ e=>by cases e⟩
theorem Pr.lf {α:Type}{Q:α→Prop}{g:PS→α×PS}(h:∀s,(g s).2.nd=s.nd∧Q (g s).1):Pr Q (Go.Ab.lf g):=⟨fun {s t a} hn e=>by
 obtain⟨-,e⟩:=bb e;have:=h s;rw[e]at this;exact⟨fun x hx=>hn x (this.1▸hx),this.2⟩⟩
theorem Pr.cnd {α:Type}{Q:α→Prop}{c:PS→Bool}{p q:PM α}(hp:Pr Q p)(hq:Pr Q q):Pr Q (Go.Ab.cnd c p q):=⟨fun hn e=>by
 obtain⟨-,e⟩:=aH e;rcases e with⟨-,e⟩|⟨-,e⟩
 ·exact hp.h hn e
 ·exact hq.h hn e⟩
theorem Pr.cok {α:Type}{Q:α→Prop}{p q:PM α}(hp:Pr Q p)(hq:Pr Q q):Pr Q (Go.Ab.cok p q):=⟨fun hn e=>by
 rcases bx e with⟨-,e⟩|⟨-,e⟩
 ·exact hp.h hn e
 ·exact hq.h hn e⟩
theorem Pr.fnO {α:Type}{Q:α→Prop}{l:List (List Nat)}{p:PM α}{f:List Nat→PM α}(hp:Pr Q p)(hf:∀o,Pr Q (f o)):Pr Q (Go.Ab.fnO l p f):=⟨fun hn e=>by
 obtain⟨-,e⟩:=dR e;rcases e with⟨-,e⟩|⟨o,-,e⟩
 ·exact hp.h hn e
 ·exact(hf o).h hn e⟩
theorem qX (s:PS)(e:Int):(s.fail e).nd=s.nd:=(jO s e).2.2.2.1
theorem PA (s:PS)(x:List Nat):(s.exp x).nd=s.nd:=by
 unfold PS.exp;cases s.is x
 ·exact qX s 13
 ·rfl
theorem v_up:vc pUp:=Pr.lf fun s=>⟨rfl,trivial⟩
theorem WV (e:Int):vc (rB e):=Pr.lf fun s=>⟨qX s e,trivial⟩
theorem Il (x:List Nat):vc (kL x):=Pr.lf fun s=>⟨by
 show(s.opn1 x).nd=s.nd;unfold PS.opn1;rw[PA];cases(s.is x&&eqI s.ne 24)
 ·rfl
 ·exact qX s 5,trivial⟩
theorem JN (x:List Nat):vc (gM x):=Pr.lf fun s=>⟨PA s x,trivial⟩
theorem v_peek:vc pPeek:=Pr.lf fun s=>⟨rfl,trivial⟩
theorem v_dec:vc pDec:=⟨fun hn e=>by
 unfold pDec at e;injection e with e;injection e with _ e;subst e;exact⟨hn,trivial⟩⟩
theorem uB {x:No}(hx:Xb x.v):vc (ea x):=⟨fun {s t a} hn e=>by
 obtain⟨-,-,e⟩:=jJ e;unfold PS.add at e;cases hk:s.ok with
 |false=>
  rw[hk]at e;injection e with _ e;subst e;exact⟨hn,trivial⟩
 |true=>
  rw[hk]at e;injection e with _ e;subst e;refine⟨fun y hy=>?_,trivial⟩
  rcases mδ.1 hy with h|h
  ·exact hn y h
  ·rw[List.mem_singleton]at h;rw[h];exact hx⟩
theorem WX {α:Type}{p:PM α}(hp:vc p)(l:List α):vc (snoc p l):=⟨fun hn e=>by
 obtain⟨x,e,-,-⟩:=cg e;exact⟨(hp.h hn e).1,trivial⟩⟩
theorem Rb {ex:PM Int}(he:vc ex):∀(q n:Nat) (l:List Int),vc (j9 PS.begins (snoc ex) 16 q n l)
 |0,_,_=>Pr.none
 |q+1,n,l=>by
  unfold j9;refine Pr.cok (Pr.bnd (Q:=fun _=>True) (Pr.lf fun s=>⟨?_,trivial⟩) fun _ _=>(WX he l).bnd fun l' _=>Pr.cnd (v_up.bnd fun _ _=>Rb he q (n+1) l') (Pr.ret trivial)) (Pr.ret trivial);show(bif !s.begins then s.fail 13 else bif Nat.beq n 16 then s.fail 5 else s).nd=s.nd;cases s.begins
  ·exact qX s 13
  ·cases Nat.beq n 16
   ·rfl
   ·exact qX s 5
theorem WU {ex:PM Int}(he:vc ex)(q:Nat):vc (oL ex q):=(Il _).bnd fun _ _=>(Pr.bnd (Q:=fun _=>True) (Pr.cnd (Pr.ret trivial) (Rb he q 0 [])) fun l _=>(JN _).bnd fun _ _=>Pr.ret trivial)
theorem nH:Xb vz:=⟨rfl,rfl⟩
theorem Yb {f:PM Int}(hf:vc f)(o:List Nat):vc (UC o f):=(Il o).bnd fun _ _=>(Pr.cok hf (Pr.ret (Q:=fun _=>True) trivial)).bnd fun x _=>v_dec.bnd fun _ _=>uB nH
theorem FQ {ex:PM Int}(he:vc ex)(ops:List (List Nat)):∀(q:Nat) (x:Int),vc (eF ex ops q x)
 |0,_=>Pr.none
 |q+1,x=>Pr.fnO (Pr.ret trivial) fun o=>v_up.bnd fun _ _=>he.bnd fun y _=>(uB nH).bnd fun z _=>FQ he ops q z
theorem C6 {ex:PM Int}(he:vc ex)(ops:List (List Nat))(q:Nat):vc (gu ex ops q):=he.bnd fun x _=>FQ he ops q x
theorem Ya {ex:PM Int}(he:vc ex):vc (Fp ex):=he.bnd fun x _=>Pr.fnO (Pr.ret trivial) fun o=>v_up.bnd fun _ _=>he.bnd fun y _=>uB nH
theorem WW {ex:PM Int}(he:vc ex)(q:Nat):vc (jv ex q):=
 Pr.cnd (v_peek.bnd fun t _=>v_up.bnd fun _ _=>uB nH)
 (Pr.cnd (v_peek.bnd fun t _=>v_up.bnd fun _ _=>(WU he q).bnd fun l _=>uB nH)
 (Pr.cnd (v_peek.bnd fun t _=>v_up.bnd fun _ _=>uB ⟨rfl,rfl⟩)
 (Pr.cnd (Pr.bnd (Q:=Xb) (Pr.cnd (Pr.lf fun s=>⟨rfl,rfl,rfl⟩) (Pr.cnd (Pr.lf fun s=>⟨rfl,rfl,rfl⟩) (Pr.cnd (Pr.lf fun s=>⟨rfl,rfl,rfl⟩) Pr.none))) fun v hv=>uB hv)
 (Pr.cnd (v_up.bnd fun _ _=>uB nH)
 (Pr.cnd ((Il _).bnd fun _ _=>(Pr.cok he (Pr.ret (Q:=fun _=>True) trivial)).bnd fun x _=>(JN _).bnd fun _ _=>Pr.ret trivial)
 ((WV 13).bnd fun _ _=>Pr.ret trivial))))))
theorem zF (q:Nat):∀(f lvl:Nat),vc (ku q f lvl)
 |0,lvl=>Pr.none
 |f+1,0=>C6 (zF q f 1) _ q
 |f+1,1=>C6 (zF q f 2) _ q
 |f+1,2=>Ya (zF q f 3)
 |f+1,3=>C6 (zF q f 4) _ q
 |f+1,4=>C6 (zF q f 5) _ q
 |f+1,5=>Pr.cnd (Yb (zF q f 5) _) (Pr.cnd (Yb (zF q f 5) _) (zF q f 6))
 |f+1,_+6=>WW (zF q f 0) q
end
end Go.Ab
end
section
namespace Go.Ab
open Go
set_option maxRecDepth 100000
noncomputable section
theorem G4 {s:PS}(h:s.ok=false)(x:List Nat):(s.close x).er=s.er:=fj h x
theorem Nx.quiet {s:PS}{R:List Tk}(h:Nx s (⟨5,[59],0,0⟩::R)):Quiet s:=fun o ho=>by
 rw[h.isA];have k:(oprL.all fun o=>!rb ⟨5,[59],0,0⟩ o)=true:=by kernel_rfl
 have:=mζ.1 k o ho;simpa using this
theorem Lu {s:PS}(h:s.ok=false):Quiet s:=fun o _=>Qo h o
def Io (y:Tk):Prop:=y.k=2∧y.s=[99,97,108,108]
theorem Qq {u:PS}{E R:List Tk}(h:Nx u (E++(⟨5,[59],0,0⟩::R)))(hc:∀y∈E.head?,¬Io y):u.is [99,97,108,108]=false:=by
 cases E with
 |nil=>rw[Nx.isA h];kernel_rfl
 |cons y E=>
  rw[Nx.isA h];have:=hc y rfl;cases hi:rb y [99,97,108,108]with
  |false=>rfl
  |true=>
   exfalso;unfold rb at hi;simp only[lγ,mμ,cF,iq,lβ]at hi;obtain⟨h1,h2|h2,h3⟩:=hi
   ·exact this ⟨h2,h3⟩
   ·unfold bZ at h1;rw[h2,h3]at h1;have h1:QV [99,97,108,108]=true:=h1;rw[show QV [99,97,108,108]=false by kernel_rfl]at h1;cases h1
def Bw (x:Ac):Prop:=∃ns:List No,x=⟨[65],[⟨[120],1,vI 0⟩],[⟨[109],[],0,ns⟩]⟩∧ns.length<10000∧∀n∈ns,Xb n.v∧n.kids.length<10000
theorem LK {E:List Tk}{s1 s2 t1 t2:PS}{x1 x2:Ac}{f q:Nat}(h1:Nx s1 (hdK.map st++(E++tlK.map st)))(h2:Nx s2 (hdK.map st++(⟨5,[40],0,0⟩::(E++(⟨5,[41],0,0⟩::tlK.map st)))))
  (z1:s1.ps=0) (z2:s2.ps=0) (z3:s2.tt=s1.tt) (hc:∀y∈E.head?,¬Io y) (hs:∀y∈E,¬(y.k=5∧y.s=[59])) (hl:s1.tk.length≤5998) (hq:s1.tk.length+3≤q) (hf:7*s1.tk.length+28≤f)
  (e1:ju f q s1=some (x1,t1)) (k1:t1.ok=true) (e2:ju f q s2=some (x2,t2)) (k2:t2.er≠5):x2=x1∧t2.ok=true∧t2.ps=E.length+22∧Bw x1:=by
 obtain⟨qa,qb,u1,w1,v1,hq1,a1,c1,T1⟩:=zS h1 e1;obtain⟨qc,qd,u2,w2,v2,hq2,a2,c2,T2⟩:=zS h2 e2;clear e1 e2;have hn1:=a1.nx;rw[tG]at hn1;obtain⟨sz1,c1⟩:=aH c1;obtain⟨sz2,c2⟩:=aH c2;rcases c1 with⟨k,-⟩|⟨-,c1⟩;case inl=>rw[Qq hn1 hc]at k;cases k
 rcases c2 with⟨k,-⟩|⟨-,c2⟩;case inl=>rw[Nx.isA a2.nx,show rb ⟨5,[40],0,0⟩ [99,97,108,108]=false by kernel_rfl]at k;cases k
 obtain⟨f0,b,y,rfl,e3,g⟩:=LJ a2.nx a2.ne c2;have i1:Iv u1:=⟨sz1,by rw[a1.tk];omega,by rw[a1.nd];exact Nat.zero_le _,fun x hx=>by rw[a1.nd]at hx;cases hx⟩
 have pu1:u1.ps=17:=by rw[a1.ps,z1]
 have pu2:u2.ps=17:=by rw[a2.ps,z2]
 have hn2:=a2.nx;rw[tG]at hn2;have A1:∀j,(u1.tk[17+j]?).map st=(E++[⟨5,[59],0,0⟩,⟨5,[125],0,0⟩,⟨5,[125],0,0⟩])[j]?:=fun j=>by have:=hn1.at j;rwa [pu1]at this
 have A2:∀j,(u2.tk[17+j+1]?).map st=(E++[⟨5,[41],0,0⟩,⟨5,[59],0,0⟩,⟨5,[125],0,0⟩,⟨5,[125],0,0⟩])[j]?:=fun j=>by
  have:=hn2.at (j+1);rw[pu2,List.getElem?_cons_succ]at this;rw[←this,Nat.add_assoc]
 have hR:lE (17+E.length) u1 {u2.up with ne:=2}:=by
  refine⟨a1.nx.ok,a2.nx.ok,?_,by omega,fun i hi hj=>?_,?_,?_,?_,?_,?_⟩
  ·show u2.ps+1=u1.ps+1;rw[pu1,pu2]
  ·obtain⟨j,rfl⟩:∃j,i=17+j:=⟨i - 17,by omega⟩
   show(u2.tk[17+j+1]?).map st=_;rw[A1,A2,lη (by omega),lη (by omega)]
  ·rw[A1,lξ (Nat.le_refl _),Nat.sub_self];rfl
  ·show(u2.tk[17+E.length+1]?).map st=_;rw[A2,lξ (Nat.le_refl _),Nat.sub_self];rfl
  ·show(2:Int)=aj .i64 (u1.ne+1);rw[a1.ne];exact(gm (n:=1+1) (by decide) (by decide)).symm
  ·show u2.tt=u1.tt;rw[a1.tt,a2.tt,z3]
  ·show u2.nd=u1.nd;rw[a1.nd,a2.nd]
 have len1:u1.tk.length=E.length+20:=by
  have h:=congrArg List.length hn1.tk;have h':=hn1.ps;simp only[lθ,lπ,mγ,List.length_cons,List.length_nil]at h;omega
 have len2:u2.tk.length=E.length+22:=by
  have h:=congrArg List.length hn2.tk;have h':=hn2.ps;simp only[lθ,lπ,mγ,List.length_cons,List.length_nil]at h;omega
 have len3:s1.tk.length=E.length+20:=by rw[←a1.tk];exact len1
 have hrm:u1.rem≤s1.tk.length:=by unfold PS.rem;rw[a1.tk];omega
 obtain⟨v',w',c1',iw,aw,-,-⟩:=sQ (q:=q) s1.tk.length (by omega) 0 (by decide) (f0+7) (by omega) u1 i1 hrm;rw[c1]at c1';injection c1' with c1';injection c1' with c3 c4;subst c3 c4;rcases(CN (e:=17+E.length) q (f0+7) f0 0).rel hR c1 e3 with⟨rfl,g1⟩|g1|g1
 ·-- the value ends at its end
  have hsm:w1.is [59]=true:=by
   cases hh:w1.is [59]with
   |true=>rfl
   |false=>rw[Md hh T1]at k1;cases k1
  have hend:w1.ps=17+E.length:=by
   rcases lν w1.ps (17+E.length)with hlt|hge
   ·exfalso;have hge:17≤w1.ps:=by have:=aw.ps;omega
    obtain⟨j,hj⟩:∃j,w1.ps=17+j:=⟨w1.ps - 17,by omega⟩
    have hj':j<E.length:=by omega
    have e:=jw w1 g1.ok 0;rw[Nat.add_zero,hj,aw.tk,A1,lη hj',lδ hj']at e;simp only[]at e;unfold PS.is at hsm;cases hp:bZ E[j]with
    |false=>
     rw[hp,cond_false]at e;obtain⟨b1,_⟩:=ko (t:=w1.peek 0) (u:=tk0) e;rw[b1]at hsm;exact absurd hsm (by rw[show eqI tk0.k 2=false from rfl,show eqI tk0.k 5=false from rfl];simp)
    |true=>
     rw[hp,cond_true]at e;have b:(w1.peek 0).k=E[j].k∧(w1.peek 0).s=E[j].s:=by
      have h1:=congrArg Tk.k e;have h2:=congrArg Tk.s e;exact⟨h1,h2⟩
     rw[b.1,b.2]at hsm;simp only[lγ,mμ,cF,iq,lβ]at hsm;obtain⟨hk|hk,hv⟩:=hsm
     ·unfold bZ at hp;rw[hk,hv]at hp;have hp:zl [59]=true:=hp;rw[show zl [59]=false by kernel_rfl]at hp;cases hp
     ·exact hs _ (mπ hj') ⟨hk,hv⟩
   ·exact Nat.le_antisymm g1.le hge
  have i2:Iv {u2.up with ne:=2}:=by
   refine⟨?_,by show u2.tk.length≤6000;omega,by show u2.nd.length≤_;rw[a2.nd];exact Nat.zero_le _,fun x hx=>by have hx:x∈u2.nd:=hx;rw[a2.nd]at hx;cases hx⟩
   obtain⟨q1,q2,q3⟩:=oq sz2;unfold PS.sz;simp only[lγ,lβ,mζ];exact⟨by show u2.ps+1≤u2.tk.length;omega,q2,q3⟩
  obtain⟨b',y',c2',iy,ay,-,-⟩:=sQ (q:=q) (s1.tk.length+2) (by omega) 0 (by decide) f0 (by omega) _ i2 (by show u2.tk.length - _≤_;omega);rw[e3]at c2';injection c2' with c2';injection c2' with c3 c4;subst c3 c4;have ytk:y.tk=u2.tk:=ay.tk;have n1:Nx w1 (tlK.map st):=Nx.move a1.nx aw.tk (by rw[hend,pu1]) g1.ok;have n2:Nx y (⟨5,[41],0,0⟩::tlK.map st):=Nx.move (A:=⟨5,[40],0,0⟩::E) a2.nx ytk (by rw[g1.ps,hend,pu2,List.length_cons];omega) g1.ok';have hyi:y.is [41]=true:=by rw[n2.isA];kernel_rfl
  have hyc:y.close [41]={y.up with ne:=aj .i64 (y.ne - 1)}:=by
   unfold PS.close PS.exp;simp only[hyi,cond_true];rfl
  rw[hyc]at g;have n3:Nx {y.up with ne:=aj .i64 (y.ne - 1)} (tlK.map st):=⟨n2.up.ok,n2.up.tk,n2.up.ps⟩;have n4:=n3;rw[tG]at n4;obtain⟨rfl,rfl⟩:=g n4.quiet;cases hb:Lp (me w1.nd v2) w1.tt with
  |true=>rw[Q0 n1 T1 hb]at k1;cases k1
  |false=>
   obtain⟨rfl,-,-⟩:=FL n1 T1 hb;have hnd:({y.up with ne:=aj .i64 (y.ne - 1)}:PS).nd=w1.nd:=g1.nd;have htt:({y.up with ne:=aj .i64 (y.ne - 1)}:PS).tt=w1.tt:=g1.tt;have hb2:Lp (me ({y.up with ne:=aj .i64 (y.ne - 1)}:PS).nd v2) ({y.up with ne:=aj .i64 (y.ne - 1)}:PS).tt=false:=by rw[hnd,htt];exact hb
   obtain⟨rfl,p1,p2⟩:=FL n3 T2 hb2;refine⟨by rw[hnd],p1,?_,_,rfl,?_,?_⟩
   ·rw[p2];show y.ps+1+3=_;rw[g1.ps,hend];omega
   ·have:=iw.nd;have:=g1.le;unfold me;simp only[lπ,List.length_cons,List.length_nil];omega
   ·have hv:Nv w1:=((zF q (f0+7) 0).h (fun x hx=>by rw[a1.nd]at hx;cases hx) c1).1;intro n hn;unfold me at hn;rcases mδ.1 hn with hn|hn
    ·rcases mδ.1 hn with hn|hn
     ·exact⟨hv n hn,(iw.wf n hn).2⟩
     ·rw[List.mem_singleton]at hn;subst hn;exact⟨nH,by simp⟩
    ·rw[List.mem_singleton]at hn;subst hn;exact⟨nH,by simp⟩
 ·exact absurd (gK g1 (AS g1 T1)) (by rw[k1];decide)
 ·have hy:=Yj (t:=y) g1;have hcl:=G4 hy [41];have hcn:(y.close [41]).ok=false:=gK hy hcl;obtain⟨-,rfl⟩:=g (Lu hcn);exact absurd ((AS hcn T2).trans (hcl.trans g1)) k2
end
end Go.Ab
end
section
namespace Go.Ab
open Go
set_option maxRecDepth 100000
noncomputable section
theorem Nx.zero {tk:List Tk}{en:Int}{R:List Tk}(h:tk.map st=R):Nx (WF tk en) R:=⟨rfl,by show tk.map st=(tk.map st).take 0++R;rw[List.take_zero,List.nil_append];exact h,Nat.zero_le _⟩
theorem LM {tk:List Tk}{en:Int}{f q:Nat}{x:Ac}{at1:Int}(hn:0<tk.length)(h:lV tk en f q=some ([x],at1,0)):∃u,ju f q (WF tk en)=some (x,u)∧u.ok=true:=by
 unfold lV at h;split at h
 ·cases h
 ·rename_i l s he;injection h with h;cases hs:s.ok with
  |false=>rw[hs]at h;injection h with h1 h2;cases h1
  |true=>
   rw[hs,Bool.not_true,cond_false]at h;injection h with h1 h2;subst h1;cases q with
   |zero=>cases he
   |succ q=>
    obtain⟨y,u,e1,e2⟩:=uz hn he;cases q with
    |zero=>cases e2
    |succ q=>
     unfold cX at e2;rcases bx e2 with⟨k,e⟩|⟨k,e⟩
     ·obtain⟨-,e⟩:=aH e;rcases e with⟨c,e⟩|⟨c,e⟩
      ·obtain⟨_,u1,h1,e⟩:=ae e;obtain⟨l1,v,h2,e⟩:=ae e;obtain⟨z,h3,h4,rfl⟩:=cg h2;have:=yS _ _ _ e;simp at this
      ·obtain⟨h1,rfl⟩:=aF e;injection h1 with h1;subst h1;exact⟨u,e1,k⟩
     ·obtain⟨h1,rfl⟩:=aF e;rw[k]at hs;cases hs
theorem LL {tk:List Tk}{en:Int}{f q:Nat}{l:List Ac}{at1 g:Int}(hn:0<tk.length)(h:lV tk en f q=some (l,at1,g)):
  ∃x u,ju f q (WF tk en)=some (x,u)∧(u.er=5→g=5)∧(u.ok=true→u.ps=tk.length→l=[x]∧g=0):=by
 unfold lV at h;split at h
 ·cases h
 ·rename_i l s he;injection h with h;cases q with
  |zero=>cases he
  |succ q=>
   obtain⟨y,u,e1,e2⟩:=uz hn he;refine⟨y,u,e1,fun k=>?_,fun k1 k2=>?_⟩
   ·obtain⟨-,rfl⟩:=Ii (Yj (t:=u) k) e2;rw[Yj (t:=s) k]at h;injection h with h1 h2;injection h2 with h2 h3;rw[←h3];exact k
   ·cases q with
    |zero=>cases e2
    |succ q=>
     unfold cX at e2;rcases bx e2 with⟨-,e⟩|⟨k,e⟩
     ·obtain⟨-,e⟩:=aH e;rcases e with⟨c,e⟩|⟨c,e⟩
      ·have:u.ps<tk.length:=of_decide_eq_true c;omega
      ·obtain⟨rfl,rfl⟩:=aF e;rw[k1]at h;injection h with h1 h2;injection h2 with h2 h3;exact⟨h1.symm,h3.symm⟩
     ·rw[k1]at k;cases k
theorem HN {s:List Nat}{t:List Tk}{a:Int}(hb:By s)(hl:s.length≤300)(h:eI s=(t,a,0))(hc:∀y∈t.head?,¬Io y)(hs:∀y∈t,¬(y.k=5∧y.s=[59])){f q:Nat}(hq:1000≤q)(hf:7000≤f)
  {x:Ac} {at1:Int} (h1:ma (hdS++32::(s++10::tlS)) f q=some ([x],at1,0)) {l:List Ac} {at2 g:Int} (h2:ma (hdS++32::(40::(s++10::(41::tlS)))) f q=some (l,at2,g)) (hg:g≠5):g=0∧l=[x]∧Bw x:=by
 obtain⟨T1,e1,m1⟩:=Q6 hb hl h;obtain⟨T2,e2,m2⟩:=Q7 hb hl h;obtain⟨-,hlt⟩:=C4 s hb;rw[h]at hlt;simp only[]at hlt;have l1:=congrArg List.length m1;have l2:=congrArg List.length m2;rw[PO,tG]at l1 l2;simp only[lθ,lπ,List.length_cons,List.length_nil]at l1 l2;unfold ma at h1 h2;rw[e1]at h1;rw[e2]at h2;simp only[show(!eqI (0:Int) 0)=false from rfl,cond_false]at h1 h2;obtain⟨u1,c1,k1⟩:=LM (by omega) h1;obtain⟨y,u2,c2,g1,g2⟩:=LL (by omega) h2;have hst:∀z∈t.map st,∃y∈t,y.k=z.k∧y.s=z.s:=fun z hz=>by
  obtain⟨y,hy,rfl⟩:=List.mem_map.1 hz;exact⟨y,hy,rfl,rfl⟩
 obtain⟨hxy,o2,p2,hsh⟩:=LK (s1:=WF T1 _) (s2:=WF T2 _) (E:=t.map st) (Nx.zero (by rw[m1,lω])) (Nx.zero (by rw[m2];simp only[lω,List.cons_append,List.nil_append])) rfl rfl rfl
  (fun z hz=>by
   cases t with
   |nil=>cases hz
   |cons y t=>
    injection hz with hz;subst hz;exact hc y rfl)
  (fun z hz=>by obtain⟨y,hy,a1,a2⟩:=hst z hz;rw[←a1,←a2];exact hs y hy)
  (by show T1.length≤_;omega) (by show T1.length+_≤_;omega) (by show 7*T1.length+_≤_;omega) c1 k1 c2 (fun k=>hg (g1 k))
 obtain⟨rfl,rfl⟩:=g2 o2 (by rw[p2,lθ];omega);exact⟨rfl,by rw[hxy],hsh⟩
end
end Go.Ab
end
section
namespace Go.Ab
open Go
set_option maxRecDepth 100000
noncomputable section
theorem TV (s:List Nat):hdS++32::(s++10::tlS)=hdS++[32]++s++[10]++tlS:=by simp only[lω,List.cons_append,List.nil_append]
theorem TW (s:List Nat):hdS++32::(40::(s++10::(41::tlS)))=hdS++[32,40]++s++[10,41]++tlS:=by simp only[lω,List.cons_append,List.nil_append]
theorem Xa {m:Nat}(k0:aV×aV→R)(k1:LD×Int×Int×Bool×aV×aV→R)(t:List Tk)(g:Int)(u v:aV)(hm:t.length<m)(hl:t.length<fA):
  L_lawParens_1 (bv lay0.tab m) m k0 k1 m (t.map Tk.e,g,0,u,v)=if(∃y∈t,y.k=5∧y.s=[59])then k0 (u,v)else k1 (t.map Tk.e,g,(t.length:Int),false,u,v):=by
 have e:=iS t (fun q i=>L_lawParens_1 (bv lay0.tab m) m k0 k1 q (t.map Tk.e,g,i,u,v)) (fun y=>eqI y.k 5&&cp y.s [59]) (fun _=>k0 (u,v)) (k1 (t.map Tk.e,g,(t.length:Int),false,u,v)) (fun q i hi=>?_) (fun q=>?_) hm
 ·refine e.trans ?_;cases hf:t.findIdx? (fun y=>eqI y.k 5&&cp y.s [59])with
  |none=>
   rw[if_neg];rintro⟨y,hy,h1,h2⟩;rw[qε]at hf;have:=hf y hy;rw[h1,h2,mw,Ek]at this;cases this
  |some j=>
   rw[if_pos];obtain⟨h1,h2,-⟩:=mω.1 hf;simp only[lγ,cF,iq,lβ]at h2;exact⟨_,mπ h1,h2⟩
 ·rw[mP];simp only[fg,lθ,ue (show((i:Int)<(t.length:Int)) by omega),aR,cR,ji,jf hi,dL,xa,wS (show i<fA by omega),show t[i].r.Kind=t[i].k from rfl,show t[i].r.Text=t[i].s from rfl];cases eqI t[i].k 5<;>cases cp t[i].s [59]<;>rfl
 ·rw[mP];simp only[fg,lθ,oA,aQ]
theorem W4 {a:Nat}(h:a≤1000000):Nat.ble a fx=true:=Nat.ble_eq_true_of_le (by unfold fx;omega)
theorem nh {a b:List Nat}(ha:By a)(hb:By b):By (a++b):=fun x hx=>(mδ.1 hx).elim (ha x) (hb x)
theorem MT {n:Nat}{p q:List Ac}{t:List Tk}{g:Int}(hl:t.length≤300)(h:∀x,p=[x]→(∀y∈t,¬(y.k=5∧y.s=[59]))→g=0∧q=[x]∧Bw x):
  ff ⟨p.map Ac.e⟩ (bv lay0.tab (n+250000)) (n+250000) (t.map Tk.e) g ⟨q.map Ac.e⟩=some (.p (.bool true),[]):=by
 unfold ff;simp only[lθ];cases ho:eqI (p.length:Int) 1 with
 |false=>rfl
 |true=>
  rw[cF,lβ]at ho;obtain⟨x,rfl⟩:∃x,p=[x]:=by
   match p,ho with
   |[x],_=>exact⟨x,rfl⟩
   |[],h=>simp at h
   |_::_::_,h=>simp at h;omega
  have a0:fq ([x].map Ac.e) 0=some x.e:=rfl;simp only[Bool.not_true,aQ,a0,dL,YG];cases hm:eqI ((x.r.Methods.length:Nat):Int) 1 with
  |false=>rfl
  |true=>
   simp only[Bool.not_true,aQ];rw[Xa _ _ t g _ _ (by omega) (by unfold fA;omega)];by_cases hs:∃y∈t,y.k=5∧y.s=[59]
   ·rw[if_pos hs]
   ·rw[if_neg hs];obtain⟨rfl,rfl,ns,hx,h1,h2⟩:=h x rfl (fun y hy hk=>hs ⟨y,hy,hk⟩);have hz:Zg 10000 [x]:=by
     subst hx;refine⟨by simp,fun z hz=>?_⟩
     rw[List.mem_singleton]at hz;subst hz;refine⟨by simp,by simp,fun f hf=>?_,fun m hm=>?_⟩
     ·rw[List.mem_singleton]at hf;subst hf;exact⟨by simp[vI],by simp[vI]⟩
     ·rw[List.mem_singleton]at hm;subst hm;refine⟨by simp,Nat.le_of_lt h1,fun n hn=>?_⟩
      obtain⟨⟨a1,a2⟩,a3⟩:=h2 n hn;exact⟨⟨by rw[a1];simp,by rw[a2];simp⟩,Nat.le_of_lt a3⟩
    have e:evFn lay0.tab (n+250000) 12 [.p (aV.mk ([x].map Ac.e)).e,.p (aV.mk ([x].map Ac.e)).e] []=some (.p (.bool true),[]):=Rm [x] hz (by omega) (by unfold fA;omega);simp only[mw,aR,aa e,aJ,aq,iC]
theorem Dj {n:Nat}(s:List Nat)(hb:By s)(ha:evFn lay0.tab (n+250000) 7 [] []=some (.p (.bool true),[])):evFn lay0.tab (n+250001) 5 [.p (.str s)] []=some (.p (.bool true),[]):=by
 apply DB (n+250000) s;unfold mB;simp only[aa ha,aJ,aq,aM,Bool.not_true,aQ];cases hl:bo 300 (s.length:Int)with
 |true=>rfl
 |false=>
  rw[oJ,lχ]at hl;have hl:s.length≤300:=by omega
  obtain⟨t1,t2⟩:=C4 s hb;have b1:By (hdS++[32]++s++[10]++tlS):=nh (nh (nh (nh IH (by unfold By;decide)) hb) (by unfold By;decide)) DW;have b2:By (hdS++[32,40]++s++[10,41]++tlS):=nh (nh (nh (nh IH (by unfold By;decide)) hb) (by unfold By;decide)) DW;have l1:(hdS++[32]++s++[10]++tlS).length=s.length+51:=by simp only[lπ,xw,gl,List.length_cons,List.length_nil];omega
  have l2:(hdS++[32,40]++s++[10,41]++tlS).length=s.length+53:=by simp only[lπ,xw,gl,List.length_cons,List.length_nil];omega
  obtain⟨⟨p,at1,f⟩,hs1⟩:=yG _ b1 (by omega) (f:=14020) (q:=2004) (by omega) (by omega);obtain⟨⟨q,at2,g⟩,hs2⟩:=yG _ b2 (by omega) (f:=14020) (q:=2004) (by omega) (by omega);have h0:=aa (zJ (m:=n+250000) s hb (by omega) (by omega));have h1:=aa (zG (m:=n+250000) (by omega) (by omega) (by omega) b1 (by omega) (by omega) hs1);have h2:=aa (zG (m:=n+250000) (by omega) (by omega) (by omega) b2 (by omega) (by omega) hs2);have law:∀t a,eI s=(t,a,0)→f=0→g≠5→(∀y∈t.head?,¬Io y)→∀x,p=[x]→(∀y∈t,¬(y.k=5∧y.s=[59]))→g=0∧q=[x]∧Bw x:=fun t a ht hf hg hc x hx hsm=>by
   subst hf hx;rw[←TV]at hs1;rw[←TW]at hs2;exact HN hb hl ht hc hsm (by omega) (by omega) hs1 hs2 hg
  unfold hdS tlS at h1 h2;simp only[List.cons_append,List.nil_append]at h1 h2;simp only[List.cons_append,List.nil_append,h0,JK,bc,jM,aJ,Zo,aS,qM,aM,List.length_cons,lπ,List.length_nil];rw[W4 (by omega),W4 (by omega),W4 (by omega),W4 (by omega),W4 (by omega),W4 (by omega)];simp only[aR,h1,h2,QI,bc,jM,aJ,Zo,aS,qM,aM,lθ];generalize hw:eI s=w at t1 t2 law;obtain⟨t,a,e0⟩:=w;simp only[]at t1 t2 ⊢
  cases he:eqI e0 0 with
  |false=>rfl
  |true=>
   rw[cF,lβ]at he;subst he;cases hf:eqI f 0 with
   |false=>rfl
   |true=>
    rw[cF,lβ]at hf;cases hg:eqI g 5 with
    |true=>rfl
    |false=>
     rw[cF,lχ]at hg;have law:=law t a rfl hf hg;simp only[Bool.not_true,aQ];cases t with
     |nil=>exact MT (by simp) (law fun y hy=>by cases hy)
     |cons y t=>
      have a0:fq ((y::t).map Tk.e) 0=some y.e:=rfl;rw[ue (show(0:Int)<((y::t).length:Int) by simp only[List.length_cons];omega),aR,a0];simp only[dL,xa];cases c1:cp y.r.Text [99,97,108,108]with
      |false=>
       refine MT (by simp only[List.length_cons]at t2 ⊢;omega) (law fun z hz hc=>?_);injection hz with hz;subst hz;rw[iq,lχ]at c1;exact c1 hc.2
      |true=>
       cases c2:eqI y.r.Kind 2 with
       |true=>rfl
       |false=>
        refine MT (by simp only[List.length_cons]at t2 ⊢;omega) (law fun z hz hc=>?_);injection hz with hz;subst hz;rw[cF,lχ]at c2;exact c2 hc.1
end
end Go.Ab
end
section
namespace Go.Ab
open Go
set_option maxRecDepth 100000
noncomputable section
theorem run_SyntaxParens:∀xs,Pw (oE prog0 (dM prog0 Bn 12)) [9] xs→∃N,evFn lay0.tab N 5 (xs.map .p) []=some (.p (.bool true),[]):=by
 intro xs h;obtain⟨x1,r1,rfl,h1,h⟩:=h.cons_inv;obtain rfl:=h.nil_inv;obtain⟨s,rfl,hs⟩:=Xn (n:=11) h1;exact⟨0+250001,Dj (n:=0) s hs (Rk (n:=249999))⟩
end
end Go.Ab
end
