import Derived.Test.YtbgddkffhndjcaaGreatDoorKg0
import Derived.Test.YtbgddkffhndjcaaGreatDoorOg1
import Derived.Test.YtbgddkffhndjcaaGreatDoorOg2
import Derived.Test.YtbgddkffhndjcaaGreatDoorOg3
set_option linter.all false
section
namespace Go.Ab
open Go
set_option maxRecDepth 100000
noncomputable section
theorem tF {m:Nat}(s:PS)(x:List Nat)(hz:s.sz=true)(hm:65≤m):evFn lay0.tab m 121 [.box 0 0,.p (.str x)] s.A.hp=some (.tup [],(s.open x).A.hp):=by
 replace hm:=aO hm;obtain⟨m,rfl,hm⟩:=hm;apply Oj m s.A x;unfold ze PS.open PS.opn1 m1;have e:=fun(s:PS) (hz:s.sz=true)=>nN (m:=m) s x hz (by omega)
 have hf:(s.fail 5).sz=true:=by
  unfold PS.fail;cases s.ok<;>exact hz
 simp only[aa (f3 (m:=m) s x hz (by omega)),aE,aw,bP,aa (fu (m:=m) s 5 (by omega)),ba,aM,aa (e s hz),aa (e _ hf),show s.A.ne=s.ne from rfl];cases s.is x<;>cases eqI s.ne 24<;>rfl
theorem ug {m:Nat}(s:PS)(x:List Nat)(hz:s.sz=true)(hm:65≤m):evFn lay0.tab m 124 [.box 0 0,.p (.str x)] s.A.hp=some (.tup [],(s.close x).A.hp):=by
 replace hm:=aO hm;obtain⟨m,rfl,hm⟩:=hm;apply J0 m s.A x;unfold ul PS.close;simp only[aa (nN (m:=m) s x hz (by omega)),ba,aM,bP];rfl
theorem jj {x:No}{s t:PS}{i:Int}(h:dX x s=some (i,t)):s.nd.length<1000000∧x.kids.length<1000000∧s.add x=(i,t):=by
 unfold dX at h;cases hb:(decide (s.nd.length<1000000)&&decide (x.kids.length<1000000))with
 |false=>rw[hb]at h;cases h
 |true=>
  rw[hb]at h;rw[lβ,lγ,lγ]at hb;exact⟨hb.1,hb.2,Option.some.inj h⟩
theorem ku {m:Nat}{s t:PS}{x:No}{i:Int}(h:dX x s=some (i,t))(hm:2≤m):evFn lay0.tab m 123 [.box 0 0,.p x.e] s.A.hp=some (.p (.int .i64 i),t.A.hp):=by
 replace hm:=aO hm;obtain⟨m,rfl,hm⟩:=hm;obtain⟨h1,h2,h3⟩:=jj h;apply Rr m s.A x.r;unfold DZ;simp only[aa (fv (m:=m) s hm),aE,aw,bP];unfold PS.add at h3;cases hk:s.ok with
 |false=>
  rw[hk,cond_false]at h3;injection h3 with h3 h4;subst h3 h4;rfl
 |true=>
  rw[hk,cond_true]at h3;injection h3 with h3 h4;subst h3 h4;have hl:s.A.no.length=s.nd.length:=lμ ..
  have hb:Nat.beq s.A.nd s.A.no.length=true:=by rw[hl];exact Nat.beq_refl _
  simp only[Bool.not_true,aU,hb,aV];rw[dy (by rw[hl];show s.nd.length+1<_;omega) (by decide),aV];have e1:(s.A.no++[Da.agg [Da.int .i64 x.r.Op,Da.str x.r.Name,Da.int .i64 x.r.Value_Kind,Da.int .i64 x.r.Value_N,Da.str x.r.Value_S,Da.slice 1 x.r.Value_I,Da.slice 1 x.r.Value_L,Da.slice 1 x.r.Kids]])=(s.nd++[x]).map No.e:=by
   rw[List.map_append];rfl
  rw[e1,lμ,lπ,List.length_singleton];have e2:ao .i64 (((s.nd.length+1:Nat):Int) - 1)=(s.nd.length:Int):=by
   rw[show((s.nd.length+1:Nat):Int) - 1=(s.nd.length:Int) by omega,gT (by omega) (by omega)]
  rw[e2];show some (_,bi.hp ⟨_,_,_,_,_,_,_,s.nd.length+1,(s.nd++[x]).map No.e⟩)=some (_,bi.hp ⟨_,_,_,_,_,_,_,(s.nd++[x]).length,(s.nd++[x]).map No.e⟩);rw[lπ,List.length_singleton];rfl
def PS.K (s:PS)(l:List Da):Eb:=⟨s.tk.map Tk.e,s.ps,s.en,s.aT,s.er,s.ne,s.tt,s.nd.length,l,s.nd.map No.e⟩
def PS.D (s:PS)(l:List Da):JC:=⟨s.tk.map Tk.e,s.ps,s.en,s.aT,s.er,s.ne,s.tt,s.nd.length,l,s.nd.map No.e⟩
theorem UR (c:JC)(K:JC→R):si c.hp K=K c:=rfl
theorem NZ {m:Nat}{s t:PS}{op:Int}{nm tx:List Nat}{l:List Int}{i:Int}(h:dX ⟨op,nm,⟨0,0,tx,[],[]⟩,l⟩ s=some (i,t))(hm:2≤m):
  evFn lay0.tab m 123 [.box 0 0,.agg [.p (.int .i64 op),.p (.str nm),.p (.int .i64 0),.p (.int .i64 0),.p (.str tx),.p (.slice 1 []),.p (.slice 1 []),.arr 1 0 l.length 1]] (s.K (l.map iE)).hp=some (.p (.int .i64 i),(t.D (l.map iE)).hp):=by
 replace hm:=aO hm;obtain⟨m,rfl,hm⟩:=hm;obtain⟨h1,h2,h3⟩:=jj h;apply Of m (s.K (l.map iE)) op nm tx l.length;unfold y9;have ho:evFn lay0.tab m 42 [.box 0 0] (bi.mk (s.K (l.map iE)).tk (s.K (l.map iE)).ps (s.K (l.map iE)).en (s.K (l.map iE)).aT (s.K (l.map iE)).er (s.K (l.map iE)).ne (s.K (l.map iE)).tt (s.K (l.map iE)).nd (s.K (l.map iE)).no).hp=some (.p (.bool s.ok),s.A.hp):=fv (m:=m) s hm;simp only[aa ho,aE,aw,bP];unfold PS.add at h3;cases hk:s.ok with
 |false=>
  rw[hk,cond_false]at h3;injection h3 with h3 h4;subst h3 h4;rfl
 |true=>
  rw[hk,cond_true]at h3;injection h3 with h3 h4;subst h3 h4;have hl:s.A.no.length=s.nd.length:=lμ ..
  have hb:Nat.beq s.A.nd s.A.no.length=true:=by rw[hl];exact Nat.beq_refl _
  simp only[Bool.not_true,aU,hb,aV];rw[dy (by rw[hl];show s.nd.length+1<_;omega) (by decide),aV];have e0:List.take l.length (List.drop 0 (s.K (l.map iE)).kl)=l.map iE:=by
   show List.take l.length (List.drop 0 (l.map iE))=_;rw[List.drop_zero,mξ (by rw[lμ];omega)]
  rw[e0];have e1:(s.A.no++[Da.agg [Da.int .i64 op,Da.str nm,Da.int .i64 0,Da.int .i64 0,Da.str tx,Da.slice 1 [],Da.slice 1 [],Da.slice 1 (l.map iE)]])=(s.nd++[(⟨op,nm,⟨0,0,tx,[],[]⟩,l⟩:No)]).map No.e:=by
   rw[List.map_append];rfl
  rw[e1,lμ,lπ,List.length_singleton];have e2:ao .i64 (((s.nd.length+1:Nat):Int) - 1)=(s.nd.length:Int):=by
   rw[show((s.nd.length+1:Nat):Int) - 1=(s.nd.length:Int) by omega,gT (by omega) (by omega)]
  rw[e2];show some (_,JC.hp ⟨_,_,_,_,_,_,_,s.nd.length+1,_,(s.nd++[(⟨op,nm,⟨0,0,tx,[],[]⟩,l⟩:No)]).map No.e⟩)=some (_,JC.hp ⟨_,_,_,_,_,_,_,(s.nd++[(⟨op,nm,⟨0,0,tx,[],[]⟩,l⟩:No)]).length,_,(s.nd++[(⟨op,nm,⟨0,0,tx,[],[]⟩,l⟩:No)]).map No.e⟩);rw[lπ,List.length_singleton];rfl
theorem HB {m:Nat}(s:PS)(hz:s.sz=true)(hm:65≤m):evFn lay0.tab m 153 [.box 0 0] s.A.hp=some (.p (.bool s.begins),s.A.hp):=by
 replace hm:=aO hm;obtain⟨m,rfl,hm⟩:=hm;apply HU m s.A;unfold qL PS.begins jg mb beginL;have hp:=iw (m:=m) s 0 (by decide) hz (by omega);simp only[show((0:Nat):Int)=0 from rfl]at hp;have hk:(s.peek 0).r.Kind=(s.peek 0).k:=rfl;have ht:(s.peek 0).r.Text=(s.peek 0).s:=rfl;simp only[aa hp,aE,xA,bP,hk,ht,List.any_cons,List.any_nil,Bool.or_false];generalize s.A.hp=hp0;generalize(s.peek 0).k=k;generalize(s.peek 0).s=tx;cases eqI k 1
 ·cases eqI k 3
  ·cases eqI k 4
   ·cases eqI k 2<;>cases eqI k 5<;>cases cM tx [116,114,117,101]<;>cases cM tx [102,97,108,115,101]<;>cases cM tx [115,101,108,102]<;>cases cM tx [105,110,116,115]<;>cases cM tx [115,116,114,105,110,103,115]<;>cases cM tx [40]<;>cases cM tx [45]<;>cases cM tx [33]<;>rfl
   ·rfl
  ·rfl
 ·rfl
theorem fq {m:Nat}(s:PS)(l:List (List Nat))(hl:l.length<1000)(hz:s.sz=true)(hm:l.length+70≤m):evFn lay0.tab m 155 [.p (.slice 1 (l.map .str)),.fn 1000100 [.box 0 0]] s.A.hp=
  some (.p (.int .i64 (match l.findIdx? s.is with|some j=>(j:Int)|none=> -1)),(match l.findIdx? s.is with|some j=>s.up|none=>s).A.hp):=by
 replace hm:=aO hm;obtain⟨m,rfl,hm⟩:=hm;apply zr m s.A (l.map .str);unfold kA;rw[lμ];refine(nh l (fun q i=>fw _ m _ _ q (l.map .str,(l.length:Int),i,s.A)) s.is (fun i=>some (.p (.int .i64 i),s.up.A.hp)) (some (.p (.int .i64 (-1)),s.A.hp)) (fun q i hi=>?_) (fun q=>?_) (by omega)).trans ?_
 ·rw[lz];simp only[ef,DO (show((i:Int)<(l.length:Int)) by omega),aV,jl,KY,KC hi,fX,iI,wS (show i<lI by unfold lI;omega),aa (cJ (m:=m) s l[i] hz (by omega)),aE,aw,bP];cases s.is l[i]<;>rfl
 ·rw[lz];simp only[ef,Fi,aU]
 ·cases l.findIdx? s.is<;>rfl
theorem vy {α:Type}(p:α→Bool):∀(l:List α),l.find? p=(l.findIdx? p).bind fun j=>l[j]?
 |[]=>rfl
 |x::r=>by
  simp only[qγ,List.find?_cons];cases p x
  ·simp only[Bool.false_eq_true,if_false];rw[vy p r];cases r.findIdx? p<;>rfl
  ·rfl
end
end Go.Ab
end
section
namespace Go.Ab
open Go
set_option maxRecDepth 100000
noncomputable section
def dV (m g:Nat)(p:PM Int):Prop:=∀(s t:PS) (a:Int),p s=some (a,t)→evFn lay0.tab m g [.box 0 0] s.A.hp=some (.p (.int .i64 a),t.A.hp)
theorem j0 {α:Type}(l:List α)(p:α→Bool):(l.findIdx? p=none∧l.find? p=none)∨∃j o,l.findIdx? p=some j∧l.find? p=some o∧l[j]?=some o∧p o=true∧j<l.length:=by
 cases h:l.findIdx? p with
 |none=>exact .inl ⟨rfl,by rw[vy,h];rfl⟩
 |some j=>
  obtain⟨hj,hp,-⟩:=qδ.1 h;exact .inr ⟨j,l[j],rfl,by rw[vy,h];simp[lε hj],lε hj,hp,hj⟩
theorem bF {s t:PS}{u:Unit}(h:pUp s=some (u,t)):s.sz=true∧s.up=t:=by
 obtain⟨h1,h2⟩:=bz h;injection h2 with _ h2;exact⟨h1,h2⟩
theorem tO:br (-1) 0=true:=rfl
theorem nE {m:Nat}{ex:PM Int}(hx:dV m 147 ex)(hm:100≤m)(k0:Int×bi→R):∀(q':Nat) (s t:PS) (x a:Int),fR ex [[124,124]] q' x s=some (a,t)→∀Q,q'≤Q→
  L_yleftConj_1 (bu lay0.tab m) m k0 Q ([.str [124,124]],x,s.A)=k0 (a,t.A)
 |0,s,t,x,a,h,Q,hQ=>by cases h
 |q'+1,s,t,x,a,h,Q,hQ=>by
  obtain⟨Q,rfl⟩:∃j,Q=j+1:=⟨Q - 1,by omega⟩
  rw[uL];unfold fR at h;obtain⟨hz,h⟩:=fO h;have hI:=fq (m:=m) s [[124,124]] (by decide) hz (by simp only[List.length_cons,List.length_nil];omega);simp only[List.map_cons,List.map_nil]at hI;simp only[gv,aa hI,aE,aP,bP];rcases j0 [[124,124]] s.is with⟨e1,e2⟩|⟨j,o,e1,e2,e3,e4,e5⟩
  ·rcases h with⟨-,h⟩|⟨o',h1,-⟩
   ·obtain⟨rfl,rfl⟩:=aH h;simp only[e1,tO,aV]
   ·rw[e2]at h1;cases h1
  ·rcases h with⟨h1,-⟩|⟨o',h1,h⟩
   ·rw[e2]at h1;cases h1
   ·rw[e2]at h1;cases h1;obtain⟨_,s1,h1,h⟩:=af h;obtain⟨-,rfl⟩:=bF h1;obtain⟨y,s2,h2,h⟩:=af h;obtain⟨z,s3,h3,h⟩:=af h;have hat:jW [.str [124,124]] (j:Int)=some (Da.str o):=by
     have:jW (List.map Da.str [[124,124]]) (j:Int)=some (Da.str o):=by rw[jl,ld,e3];rfl
     exact this
    have ha:=ku (m:=m) h3 (by omega);have ha':evFn lay0.tab m 123 [.box 0 0,.p (.agg [(.int .i64 5),(.str o),(.int .i64 0),(.int .i64 0),(.str []),(.slice 1 []),(.slice 1 []),(.slice 1 [Da.int .i64 x,Da.int .i64 y])])] s2.A.hp=some (.p (.int .i64 z),s3.A.hp):=ha;simp only[e1,Bh (show ¬(j:Int)<0 by omega),aU,aa (hx _ _ _ h2),aE,aP,bP,hat,fX,iI,aa ha'];exact nE hx hm k0 q' s3 t z a h Q (by omega)
theorem Bq {m q:Nat}{ex:PM Int}(hx:dV m 147 ex)(hm:100≤m)(hq:q≤m){s t:PS}{a:Int}(h:iW ex [[124,124]] q s=some (a,t)):
  evFn lay0.tab (m+1) 146 [.box 0 0,.fn 1000147 [.box 0 0],.p (.slice 1 [.str [124,124]])] s.A.hp=some (.p (.int .i64 a),t.A.hp):=by
 apply BK m s.A;unfold lN;obtain⟨x,s1,h1,h⟩:=af h;simp only[aa (hx _ _ _ h1),aE,aP,bP];exact nE hx hm _ q s1 t x a h m hq
theorem pY {m:Nat}{ex:PM Int}(hx:dV m 156 ex)(hm:100≤m)(k0:Int×bi→R):∀(q':Nat) (s t:PS) (x a:Int),fR ex [[38,38]] q' x s=some (a,t)→∀Q,q'≤Q→
  L_yleftCmp_1 (bu lay0.tab m) m k0 Q ([.str [38,38]],x,s.A)=k0 (a,t.A)
 |0,s,t,x,a,h,Q,hQ=>by cases h
 |q'+1,s,t,x,a,h,Q,hQ=>by
  obtain⟨Q,rfl⟩:∃j,Q=j+1:=⟨Q - 1,by omega⟩
  rw[xk];unfold fR at h;obtain⟨hz,h⟩:=fO h;have hI:=fq (m:=m) s [[38,38]] (by decide) hz (by simp only[List.length_cons,List.length_nil];omega);simp only[List.map_cons,List.map_nil]at hI;simp only[hL,aa hI,aE,aP,bP];rcases j0 [[38,38]] s.is with⟨e1,e2⟩|⟨j,o,e1,e2,e3,e4,e5⟩
  ·rcases h with⟨-,h⟩|⟨o',h1,-⟩
   ·obtain⟨rfl,rfl⟩:=aH h;simp only[e1,tO,aV]
   ·rw[e2]at h1;cases h1
  ·rcases h with⟨h1,-⟩|⟨o',h1,h⟩
   ·rw[e2]at h1;cases h1
   ·rw[e2]at h1;cases h1;obtain⟨_,s1,h1,h⟩:=af h;obtain⟨-,rfl⟩:=bF h1;obtain⟨y,s2,h2,h⟩:=af h;obtain⟨z,s3,h3,h⟩:=af h;have hat:jW [.str [38,38]] (j:Int)=some (Da.str o):=by
     have:jW (List.map Da.str [[38,38]]) (j:Int)=some (Da.str o):=by rw[jl,ld,e3];rfl
     exact this
    have ha:=ku (m:=m) h3 (by omega);have ha':evFn lay0.tab m 123 [.box 0 0,.p (.agg [(.int .i64 5),(.str o),(.int .i64 0),(.int .i64 0),(.str []),(.slice 1 []),(.slice 1 []),(.slice 1 [Da.int .i64 x,Da.int .i64 y])])] s2.A.hp=some (.p (.int .i64 z),s3.A.hp):=ha;simp only[e1,Bh (show ¬(j:Int)<0 by omega),aU,aa (hx _ _ _ h2),aE,aP,bP,hat,fX,iI,aa ha'];exact pY hx hm k0 q' s3 t z a h Q (by omega)
theorem DV {m q:Nat}{ex:PM Int}(hx:dV m 156 ex)(hm:100≤m)(hq:q≤m){s t:PS}{a:Int}(h:iW ex [[38,38]] q s=some (a,t)):
  evFn lay0.tab (m+1) 146 [.box 0 0,.fn 1000156 [.box 0 0],.p (.slice 1 [.str [38,38]])] s.A.hp=some (.p (.int .i64 a),t.A.hp):=by
 apply El m s.A;unfold nW;obtain⟨x,s1,h1,h⟩:=af h;simp only[aa (hx _ _ _ h1),aE,aP,bP];exact pY hx hm _ q s1 t x a h m hq
theorem nF {m:Nat}{ex:PM Int}(hx:dV m 160 ex)(hm:100≤m)(k0:Int×bi→R):∀(q':Nat) (s t:PS) (x a:Int),fR ex [[43],[45]] q' x s=some (a,t)→∀Q,q'≤Q→
  L_yleftTerm_1 (bu lay0.tab m) m k0 Q ([.str [43],.str [45]],x,s.A)=k0 (a,t.A)
 |0,s,t,x,a,h,Q,hQ=>by cases h
 |q'+1,s,t,x,a,h,Q,hQ=>by
  obtain⟨Q,rfl⟩:∃j,Q=j+1:=⟨Q - 1,by omega⟩
  rw[uM];unfold fR at h;obtain⟨hz,h⟩:=fO h;have hI:=fq (m:=m) s [[43],[45]] (by decide) hz (by simp only[List.length_cons,List.length_nil];omega);simp only[List.map_cons,List.map_nil]at hI;simp only[gw,aa hI,aE,aP,bP];rcases j0 [[43],[45]] s.is with⟨e1,e2⟩|⟨j,o,e1,e2,e3,e4,e5⟩
  ·rcases h with⟨-,h⟩|⟨o',h1,-⟩
   ·obtain⟨rfl,rfl⟩:=aH h;simp only[e1,tO,aV]
   ·rw[e2]at h1;cases h1
  ·rcases h with⟨h1,-⟩|⟨o',h1,h⟩
   ·rw[e2]at h1;cases h1
   ·rw[e2]at h1;cases h1;obtain⟨_,s1,h1,h⟩:=af h;obtain⟨-,rfl⟩:=bF h1;obtain⟨y,s2,h2,h⟩:=af h;obtain⟨z,s3,h3,h⟩:=af h;have hat:jW [.str [43],.str [45]] (j:Int)=some (Da.str o):=by
     have:jW (List.map Da.str [[43],[45]]) (j:Int)=some (Da.str o):=by rw[jl,ld,e3];rfl
     exact this
    have ha:=ku (m:=m) h3 (by omega);have ha':evFn lay0.tab m 123 [.box 0 0,.p (.agg [(.int .i64 5),(.str o),(.int .i64 0),(.int .i64 0),(.str []),(.slice 1 []),(.slice 1 []),(.slice 1 [Da.int .i64 x,Da.int .i64 y])])] s2.A.hp=some (.p (.int .i64 z),s3.A.hp):=ha;simp only[e1,Bh (show ¬(j:Int)<0 by omega),aU,aa (hx _ _ _ h2),aE,aP,bP,hat,fX,iI,aa ha'];exact nF hx hm k0 q' s3 t z a h Q (by omega)
theorem Br {m q:Nat}{ex:PM Int}(hx:dV m 160 ex)(hm:100≤m)(hq:q≤m){s t:PS}{a:Int}(h:iW ex [[43],[45]] q s=some (a,t)):
  evFn lay0.tab (m+1) 146 [.box 0 0,.fn 1000160 [.box 0 0],.p (.slice 1 [.str [43],.str [45]])] s.A.hp=some (.p (.int .i64 a),t.A.hp):=by
 apply BM m s.A;unfold lO;obtain⟨x,s1,h1,h⟩:=af h;simp only[aa (hx _ _ _ h1),aE,aP,bP];exact nF hx hm _ q s1 t x a h m hq
theorem lB {m:Nat}{ex:PM Int}(hx:dV m 161 ex)(hm:100≤m)(k0:Int×bi→R):∀(q':Nat) (s t:PS) (x a:Int),fR ex [[42],[47],[37]] q' x s=some (a,t)→∀Q,q'≤Q→
  L_yleftFactor_1 (bu lay0.tab m) m k0 Q ([.str [42],.str [47],.str [37]],x,s.A)=k0 (a,t.A)
 |0,s,t,x,a,h,Q,hQ=>by cases h
 |q'+1,s,t,x,a,h,Q,hQ=>by
  obtain⟨Q,rfl⟩:∃j,Q=j+1:=⟨Q - 1,by omega⟩
  rw[q9];unfold fR at h;obtain⟨hz,h⟩:=fO h;have hI:=fq (m:=m) s [[42],[47],[37]] (by decide) hz (by simp only[List.length_cons,List.length_nil];omega);simp only[List.map_cons,List.map_nil]at hI;simp only[eQ,aa hI,aE,aP,bP];rcases j0 [[42],[47],[37]] s.is with⟨e1,e2⟩|⟨j,o,e1,e2,e3,e4,e5⟩
  ·rcases h with⟨-,h⟩|⟨o',h1,-⟩
   ·obtain⟨rfl,rfl⟩:=aH h;simp only[e1,tO,aV]
   ·rw[e2]at h1;cases h1
  ·rcases h with⟨h1,-⟩|⟨o',h1,h⟩
   ·rw[e2]at h1;cases h1
   ·rw[e2]at h1;cases h1;obtain⟨_,s1,h1,h⟩:=af h;obtain⟨-,rfl⟩:=bF h1;obtain⟨y,s2,h2,h⟩:=af h;obtain⟨z,s3,h3,h⟩:=af h;have hat:jW [.str [42],.str [47],.str [37]] (j:Int)=some (Da.str o):=by
     have:jW (List.map Da.str [[42],[47],[37]]) (j:Int)=some (Da.str o):=by rw[jl,ld,e3];rfl
     exact this
    have ha:=ku (m:=m) h3 (by omega);have ha':evFn lay0.tab m 123 [.box 0 0,.p (.agg [(.int .i64 5),(.str o),(.int .i64 0),(.int .i64 0),(.str []),(.slice 1 []),(.slice 1 []),(.slice 1 [Da.int .i64 x,Da.int .i64 y])])] s2.A.hp=some (.p (.int .i64 z),s3.A.hp):=ha;simp only[e1,Bh (show ¬(j:Int)<0 by omega),aU,aa (hx _ _ _ h2),aE,aP,bP,hat,fX,iI,aa ha'];exact lB hx hm k0 q' s3 t z a h Q (by omega)
theorem xe {m q:Nat}{ex:PM Int}(hx:dV m 161 ex)(hm:100≤m)(hq:q≤m){s t:PS}{a:Int}(h:iW ex [[42],[47],[37]] q s=some (a,t)):
  evFn lay0.tab (m+1) 146 [.box 0 0,.fn 1000161 [.box 0 0],.p (.slice 1 [.str [42],.str [47],.str [37]])] s.A.hp=some (.p (.int .i64 a),t.A.hp):=by
 apply xu m s.A;unfold jD;obtain⟨x,s1,h1,h⟩:=af h;simp only[aa (hx _ _ _ h1),aE,aP,bP];exact lB hx hm _ q s1 t x a h m hq
theorem N2 {m q:Nat}{ex:PM Int}(hx:dV m 147 ex)(hm:100≤m)(hq:q≤m):dV (m+2) 135 (iW ex [[124,124]] q):=by
 intro s t a h;apply Oi (m+1) s.A;unfold zc;simp only[aa (Bq hx hm hq h),aE,aP,bP]
theorem N1 {m q:Nat}{ex:PM Int}(hx:dV m 156 ex)(hm:100≤m)(hq:q≤m):dV (m+2) 147 (iW ex [[38,38]] q):=by
 intro s t a h;apply Oh (m+1) s.A;unfold zb;simp only[aa (DV hx hm hq h),aE,aP,bP]
theorem Rl {m q:Nat}{ex:PM Int}(hx:dV m 160 ex)(hm:100≤m)(hq:q≤m):dV (m+2) 159 (iW ex [[43],[45]] q):=by
 intro s t a h;apply Rz (m+1) s.A;unfold D3;simp only[aa (Br hx hm hq h),aE,aP,bP]
theorem N3 {m q:Nat}{ex:PM Int}(hx:dV m 161 ex)(hm:100≤m)(hq:q≤m):dV (m+2) 160 (iW ex [[42],[47],[37]] q):=by
 intro s t a h;apply Ol (m+1) s.A;unfold zf;simp only[aa (xe hx hm hq h),aE,aP,bP]
theorem Rk {m:Nat}{sum:PM Int}(hx:dV m 159 sum)(hm:100≤m):dV (m+1) 156 (Nj sum):=by
 intro s t a h;apply Rs m s.A;unfold D0;obtain⟨x,s1,h1,h⟩:=af h;obtain⟨hz,h⟩:=fO h;have hI:=fq (m:=m) s1 zU (by decide) hz (by simp only[zU,List.length_cons,List.length_nil];omega);simp only[zU,List.map_cons,List.map_nil]at hI;simp only[aa (hx _ _ _ h1),aE,aP,bP,aa hI];rcases j0 zU s1.is with⟨e1,e2⟩|⟨j,o,e1,e2,e3,e4,e5⟩
 ·rcases h with⟨-,h⟩|⟨o',h1,-⟩
  ·obtain⟨rfl,rfl⟩:=aH h;unfold zU at e1;simp only[e1,show be 0 (-1)=false from rfl,aU]
  ·rw[e2]at h1;cases h1
 ·rcases h with⟨h1,-⟩|⟨o',h1,h⟩
  ·rw[e2]at h1;cases h1
  ·rw[e2]at h1;cases h1;obtain⟨_,s2,h1,h⟩:=af h;obtain⟨-,rfl⟩:=bF h1;obtain⟨y,s3,h2,h3⟩:=af h;have hat:jW (List.map Da.str zU) (j:Int)=some (Da.str o):=by rw[jl,ld,e3];rfl
   simp only[zU,List.map_cons,List.map_nil]at hat;have ha:=ku (m:=m) h3 (by omega);have ha':evFn lay0.tab m 123 [.box 0 0,.p (.agg [(.int .i64 5),(.str o),(.int .i64 0),(.int .i64 0),(.str []),(.slice 1 []),(.slice 1 []),(.slice 1 [Da.int .i64 x,Da.int .i64 y])])] s3.A.hp=some (.p (.int .i64 a),t.A.hp):=ha;unfold zU at e1;simp only[e1,nv (show(0:Int)≤(j:Int) by omega),aV,aa (hx _ _ _ h2),aE,aP,bP,hat,fX,iI,aa ha']
theorem tN {s t:PS}{u:Unit}(h:pDec s=some (u,t)):{s with ne:=ao .i64 (s.ne - 1)}=t:=by
 unfold pDec at h;injection h with h;injection h with _ h
theorem qg {s t:PS}{u:Unit}{x:List Nat}(h:lD x s=some (u,t)):s.sz=true∧s.open x=t:=by
 obtain⟨h1,h2⟩:=bz h;injection h2 with _ h2;exact⟨h1,h2⟩
theorem rg {s t:PS}{u:Unit}{x:List Nat}(h:hD x s=some (u,t)):s.sz=true∧s.close x=t:=by
 obtain⟨h1,h2⟩:=bz h;injection h2 with _ h2;exact⟨h1,h2⟩
theorem GB {s t:PS}{u:Unit}{x:List Nat}(h:fd x s=some (u,t)):s.sz=true∧s.exp x=t:=by
 obtain⟨h1,h2⟩:=bz h;injection h2 with _ h2;exact⟨h1,h2⟩
theorem Cy {s t:PS}{u:Unit}{e:Int}(h:sE e s=some (u,t)):s.sz=true∧s.fail e=t:=by
 obtain⟨h1,h2⟩:=bz h;injection h2 with _ h2;exact⟨h1,h2⟩
theorem Hu {m:Nat}{fac:PM Int}(hf:dV m 161 fac)(hm:100≤m){o:List Nat}{s t:PS}{a:Int}(h:Tq o fac s=some (a,t)):
  (bu lay0.tab m 121 [(.box 0 0),(.p (.str o))] s.A.hp fun d12 o13=>aY d12 fun r14=>aA r14<|av o13 fun u15=>bu lay0.tab m 42 [(.box 0 0)] u15.hp fun d16 o17=>dP d16 fun x18=>aF x18 fun b19=>av o17 fun u20=>
   iL b19
    (bu lay0.tab m 161 [(.box 0 0)] u20.hp fun d21 o22=>dP d21 fun x23=>ar .i64 x23 fun i24=>av o22 fun u25=>
    bu lay0.tab m 123 [(.box 0 0),(.p (.agg [(.int .i64 4),(.str o),(.int .i64 0),(.int .i64 0),(.str []),(.slice 1 []),(.slice 1 []),(.slice 1 [Da.int .i64 i24])]))] ({u25 with ne:=(ao .i64 (u25.ne - 1))}:bi).hp fun d26 o27=>dP d26 fun x28=>ar .i64 x28 fun i29=>av o27 fun u30=>some ((.p (.int .i64 i29)),u30.hp))
    (bu lay0.tab m 123 [(.box 0 0),(.p (.agg [(.int .i64 4),(.str o),(.int .i64 0),(.int .i64 0),(.str []),(.slice 1 []),(.slice 1 []),(.slice 1 [Da.int .i64 0])]))] ({u20 with ne:=(ao .i64 (u20.ne - 1))}:bi).hp fun d31 o32=>dP d31 fun x33=>ar .i64 x33 fun i34=>av o32 fun u35=>some ((.p (.int .i64 i34)),u35.hp)))=some ((.p (.int .i64 a)),t.A.hp):=by
 obtain⟨_,s1,h1,h⟩:=af h;obtain⟨hz,rfl⟩:=qg h1;obtain⟨x,s2,h2,h⟩:=af h;obtain⟨_,s3,h3,h⟩:=af h;obtain rfl:=tN h3;have ha:=ku (m:=m) h (by omega);have ha':evFn lay0.tab m 123 [.box 0 0,.p (.agg [(.int .i64 4),(.str o),(.int .i64 0),(.int .i64 0),(.str []),(.slice 1 []),(.slice 1 []),(.slice 1 [Da.int .i64 x])])] ({s2.A with ne:=ao .i64 (s2.A.ne - 1)}:bi).hp=some (.p (.int .i64 a),t.A.hp):=ha;simp only[aa (tF (m:=m) s o hz (by omega)),ba,aM,bP,aa (fv (m:=m) (s.open o) (by omega)),aE,aw];rcases bH h2 with⟨hk,h2⟩|⟨hk,h2⟩
 ·simp only[hk,aV,aa (hf _ _ _ h2),aE,aP,bP,aa ha']
 ·obtain⟨rfl,rfl⟩:=aH h2;simp only[hk,aU,aa ha',aE,aP,bP]
theorem HC {m:Nat}{fac pr:PM Int}(hf:dV m 161 fac)(hp:dV m 162 pr)(hm:100≤m):dV (m+1) 161 (FA fac pr):=by
 intro s t a h;apply HW m s.A;unfold qN;obtain⟨q,rfl⟩:∃q,m=q+3:=⟨m - 3,by omega⟩
 obtain⟨hz,h⟩:=aS h;rw[kU];simp only[ff,show br 0 2=true from rfl,show be 0 0=true from rfl,show br 0 ↑(2:Nat)=true from rfl,aV,show Int.toNat 0=0 from rfl,List.getElem?_cons_zero,fX,iI,aa (f3 (m:=q+3) s _ hz (by omega)),aE,aw,bP];rcases h with⟨hc,h⟩|⟨hc,h⟩
 ·rw[hc,aV];exact Hu hf hm h
 ·obtain⟨-,h⟩:=aS h;rw[hc,aU,kU];simp only[ff,show ao .i64 (0+1)=1 from rfl,show br 1 2=true from rfl,show be 0 1=true from rfl,show br 1 ↑(2:Nat)=true from rfl,aV,show Int.toNat 1=1 from rfl,List.getElem?_cons_zero,List.getElem?_cons_succ,fX,iI,aa (f3 (m:=q+3) s _ hz (by omega)),aE,aw,bP];rcases h with⟨hc2,h⟩|⟨hc2,h⟩
  ·rw[hc2,aV];exact Hu hf hm h
  ·rw[hc2,aU,kU];simp only[ff,show ao .i64 (1+1)=2 from rfl,show br 2 2=false from rfl,aU,aa (hp _ _ _ h),aE,aP,bP]
end
end Go.Ab
end
section
namespace Go.Ab
open Go
set_option maxRecDepth 100000
noncomputable section
def PS.Pv (s:PS):tH:=⟨s.tk.map Tk.e,s.ps,s.en,s.aT,s.er,s.ne,s.tt,s.nd.map No.e⟩
theorem US (c:tH)(K:tH→R):sj c.hp K=K c:=rfl
theorem VC (c:N8)(K:N8→R):sf c.hp K=K c:=rfl
theorem VD (c:N9)(K:N9→R):sg c.hp K=K c:=rfl
theorem VH (c:Oe)(K:Oe→R):Cb c.hp K=K c:=rfl
theorem VJ (c:xm)(K:xm→R):Cd c.hp K=K c:=rfl
theorem UP (c:jH)(K:jH→R):vj c.hp K=K c:=rfl
theorem UQ (c:jI)(K:jI→R):vm c.hp K=K c:=rfl
def PS.KI (s:PS)(vk vn:Int)(vs:List Nat)(l:List Da):NS:=⟨vk,vn,vs,l.length,l,s.tk.map Tk.e,s.ps,s.en,s.aT,s.er,s.ne,s.tt,s.nd.map No.e⟩
def PS.KJ (s:PS)(vk vn:Int)(vs:List Nat)(l:List Da):N8:=⟨vk,vn,vs,l.length,s.tk.map Tk.e,s.ps,s.en,s.aT,s.er,s.ne,s.tt,s.nd.map No.e,l⟩
def PS.KL (s:PS)(vk vn:Int)(vs:List Nat)(l:List Da):NT:=⟨vk,vn,vs,l.length,l,s.tk.map Tk.e,s.ps,s.en,s.aT,s.er,s.ne,s.tt,s.nd.map No.e⟩
def PS.KM (s:PS)(vk vn:Int)(vs:List Nat)(l:List Da):N9:=⟨vk,vn,vs,l.length,s.tk.map Tk.e,s.ps,s.en,s.aT,s.er,s.ne,s.tt,s.nd.map No.e,l⟩
def PS.E (s:PS)(l:List Da):Rp:=⟨l.length,l,s.tk.map Tk.e,s.ps,s.en,s.aT,s.er,s.ne,s.tt,s.nd.length,s.nd.map No.e⟩
def PS.F (s:PS)(l:List Da):Oe:=⟨l.length,s.tk.map Tk.e,s.ps,s.en,s.aT,s.er,s.ne,s.tt,s.nd.length,l,s.nd.map No.e⟩
def PS.O (s:PS)(l:List Da):xm:=⟨s.tk.map Tk.e,s.ps,s.en,s.aT,s.er,s.ne,s.tt,s.nd.length,l.length,s.nd.map No.e,l⟩
def PS.BI (s:PS)(vk vn:Int)(vs:List Nat)(l:List Da):jH:=⟨s.tk.map Tk.e,s.ps,s.en,s.aT,s.er,s.ne,s.tt,s.nd.map No.e,vk,vn,vs,l.length,l⟩
def PS.BL (s:PS)(vk vn:Int)(vs:List Nat)(l:List Da):jI:=⟨s.tk.map Tk.e,s.ps,s.en,s.aT,s.er,s.ne,s.tt,s.nd.map No.e,vk,vn,vs,l.length,l⟩
theorem cF {α:Type}{p:PM α}{l l':List α}{s t:PS}(h:snoc p l s=some (l',t)):∃x,p s=some (x,t)∧l.length<1000000∧l++[x]=l':=by
 obtain⟨x,s1,h1,h⟩:=af h;cases hb:decide (l.length<1000000)with
 |false=>rw[hb]at h;cases h
 |true=>
  rw[hb]at h;rw[lγ]at hb;injection h with h;injection h with h2 h3;subst h3;exact⟨x,h1,hb,h2⟩
theorem DQ {m:Nat}(s:PS)(hz:s.sz=true)(hm:65≤m):evFn lay0.tab m 116 [.box 0 0] s.Pv.hp=some (.p (.bool (zK s)),s.Pv.hp):=by
 replace hm:=aO hm;obtain⟨m,rfl,hm⟩:=hm;apply Ef m s.Pv;unfold nQ zK;have h1:evFn lay0.tab m 43 [.box 0 0,.p (.str [45])] (bw.mk s.Pv.tk s.Pv.ps s.Pv.en s.Pv.aT s.Pv.er s.Pv.ne s.Pv.tt s.Pv.nd).hp=some (.p (.bool (s.is [45])),s.B.hp):=kx (m:=m) s _ hz (by omega);have hp:=iy (m:=m) s 0 (by decide) hz (by omega);simp only[show((0:Nat):Int)=0 from rfl]at hp;simp only[aa h1,aE,aw,eX,aa hp,xA,show(s.peek 0).r.Kind=(s.peek 0).k from rfl];cases s.is [45]<;>rfl
theorem DS {m:Nat}(s:PS)(hz:s.sz=true)(hm:65≤m):evFn lay0.tab m 119 [.box 0 0] s.Pv.hp=some (.p (.bool (zM s)),s.Pv.hp):=by
 replace hm:=aO hm;obtain⟨m,rfl,hm⟩:=hm;apply Eh m s.Pv;unfold nS zM;have hp:=iy (m:=m) s 0 (by decide) hz (by omega);simp only[show((0:Nat):Int)=0 from rfl]at hp;have hp':evFn lay0.tab m 73 [.box 0 0,.p (.int .i64 0)] (bw.mk s.Pv.tk s.Pv.ps s.Pv.en s.Pv.aT s.Pv.er s.Pv.ne s.Pv.tt s.Pv.nd).hp=some (.p (s.peek 0).e,s.B.hp):=hp;simp only[aa hp',aE,eX,xA,show(s.peek 0).r.Kind=(s.peek 0).k from rfl];rfl
theorem DR {m:Nat}{s t:PS}{l l':List Int}(vk vn:Int)(vs:List Nat)(h:snoc pInt l s=some (l',t))(hm:67≤m):
  evFn lay0.tab m 117 [.box 0 0,.box 2 0] (s.KI vk vn vs (l.map iE)).hp=some (.tup [],(t.KJ vk vn vs (l'.map iE)).hp):=by
 replace hm:=aO hm;obtain⟨m,rfl,hm⟩:=hm;obtain⟨x,h1,hl,rfl⟩:=cF h;apply Eg m (s.KI vk vn vs (l.map iE));unfold nR;have h2:evFn lay0.tab m 118 [.box 0 0] (bw.mk (s.KI vk vn vs (l.map iE)).tk (s.KI vk vn vs (l.map iE)).ps (s.KI vk vn vs (l.map iE)).en (s.KI vk vn vs (l.map iE)).aT (s.KI vk vn vs (l.map iE)).er (s.KI vk vn vs (l.map iE)).ne (s.KI vk vn vs (l.map iE)).tt (s.KI vk vn vs (l.map iE)).nd).hp=some (.p (.int .i64 x),t.B.hp):=rZ (m:=m) h1 (by omega);simp only[aa h2,aE,aP,eX];have e1:Nat.beq (s.KI vk vn vs (l.map iE)).vi (List.length (s.KI vk vn vs (l.map iE)).il)=true:=Nat.beq_refl _;rw[e1,aV,dy (show List.length (s.KI vk vn vs (l.map iE)).il+List.length [Da.int .i64 x]<1000000001 by show(l.map iE).length+1<_;rw[lμ];omega) (by decide),aV];have e2:(s.KI vk vn vs (l.map iE)).il++[Da.int .i64 x]=(l++[x]).map iE:=by rw[List.map_append];rfl
 rw[e2];rfl
theorem DG {k:Int}{s t:PS}{x:Tk}(h:j6 k s=some (x,t)):s.sz=true∧s.take k=(x,t):=bz h
theorem DT {m:Nat}{s t:PS}{l l':List (List Nat)}(vk vn:Int)(vs:List Nat)(h:snoc ((j6 4).bnd fun t=> .ret t.s) l s=some (l',t))(hm:67≤m):
  evFn lay0.tab m 120 [.box 0 0,.box 2 0] (s.KL vk vn vs (l.map .str)).hp=some (.tup [],(t.KM vk vn vs (l'.map .str)).hp):=by
 replace hm:=aO hm;obtain⟨m,rfl,hm⟩:=hm;obtain⟨x,h1,hl,rfl⟩:=cF h;obtain⟨k,s1,h4,h3⟩:=af h1;obtain⟨hz,h4⟩:=DG h4;obtain⟨rfl,rfl⟩:=aH h3;apply Ei m (s.KL vk vn vs (l.map .str));unfold nT;have h2:evFn lay0.tab m 101 [.box 0 0,.p (.int .i64 4)] (bw.mk (s.KL vk vn vs (l.map .str)).tk (s.KL vk vn vs (l.map .str)).ps (s.KL vk vn vs (l.map .str)).en (s.KL vk vn vs (l.map .str)).aT (s.KL vk vn vs (l.map .str)).er (s.KL vk vn vs (l.map .str)).ne (s.KL vk vn vs (l.map .str)).tt (s.KL vk vn vs (l.map .str)).nd).hp=some (.p (s.take 4).1.e,(s.take 4).2.B.hp):=oY (m:=m) s 4 (by decide) hz (by omega);rw[h4]at h2;simp only[aa h2,aE,xA,eX];have e1:Nat.beq (s.KL vk vn vs (l.map .str)).vl (List.length (s.KL vk vn vs (l.map .str)).il)=true:=Nat.beq_refl _;rw[e1,aV,dy (show List.length (s.KL vk vn vs (l.map .str)).il+List.length [Da.str k.r.Text]<1000000001 by show(l.map Da.str).length+1<_;rw[lμ];omega) (by decide),aV];have e2:(s.KL vk vn vs (l.map .str)).il++[Da.str k.r.Text]=(l++[k.s]).map .str:=by rw[List.map_append];rfl
 rw[e2];rfl
theorem xa {m:Nat}{ex:PM Int}(hx:dV m 135 ex){s t:PS}{l l':List Int}(h:snoc ex l s=some (l',t)):
  evFn lay0.tab (m+1) 154 [.box 0 0,.box 2 0] (s.E (l.map iE)).hp=some (.tup [],(t.F (l'.map iE)).hp):=by
 obtain⟨x,h1,hl,rfl⟩:=cF h;apply xn m (s.E (l.map iE));unfold jA;have h2:evFn lay0.tab m 135 [.box 0 0] (bi.mk (s.E (l.map iE)).tk (s.E (l.map iE)).ps (s.E (l.map iE)).en (s.E (l.map iE)).aT (s.E (l.map iE)).er (s.E (l.map iE)).ne (s.E (l.map iE)).tt (s.E (l.map iE)).nd (s.E (l.map iE)).no).hp=some (.p (.int .i64 x),t.A.hp):=hx _ _ _ h1;simp only[aa h2,aE,aP,bP];have e1:Nat.beq (s.E (l.map iE)).ou (List.length (s.E (l.map iE)).ol)=true:=Nat.beq_refl _;rw[e1,aV,dy (show List.length (s.E (l.map iE)).ol+List.length [Da.int .i64 x]<1000000001 by show(l.map iE).length+1<_;rw[lμ];omega) (by decide),aV];have e2:(s.E (l.map iE)).ol++[Da.int .i64 x]=(l++[x]).map iE:=by rw[List.map_append];rfl
 rw[e2];rfl
theorem Mg {m:Nat}{ex:PM Int}(hx:∀k,m=k+1→dV k 135 ex)(hm:100≤m){s1 s2:PS}{l l1:List Int}(h2:snoc ex l s1=some (l1,s2))(hz2:s2.sz=true)(n:Nat)(k0:(Int×Int×Bool×bi×Nat×LD)→R)(Y:ec→R):
  Q_yelementsO_1 (bu lay0.tab m) (l.map iE).length (l.map iE) s1.A k0 16 n Y=iL (!s2.is [44]) (k0 (16,(n:Int),!s2.is [44],(bif s2.is [44]then s2.up else s2).A,(l1.map iE).length,l1.map iE)) (Y (16,ao .i64 ((n:Int)+1),(bif s2.is [44]then s2.up else s2).A,(l1.map iE).length,l1.map iE)):=by
 unfold Q_yelementsO_1;obtain⟨k,rfl,-⟩:=aO (show 0+1≤m by omega);have hel:evFn lay0.tab (k+1) 154 [.box 0 0,.box 2 0] (Rp.mk (l.map iE).length (l.map iE) s1.A.tk s1.A.ps s1.A.en s1.A.aT s1.A.er s1.A.ne s1.A.tt s1.A.nd s1.A.no).hp=some (.tup [],(s2.F (l1.map iE)).hp):=xa (hx k rfl) h2;generalize hm':k+1=m at*
 simp only[aa hel,ba,aM,VH];have hac:evFn lay0.tab m 100 [.box 0 0,.p (.str [44])] (bi.mk (s2.F (l1.map iE)).tk (s2.F (l1.map iE)).ps (s2.F (l1.map iE)).en (s2.F (l1.map iE)).aT (s2.F (l1.map iE)).er (s2.F (l1.map iE)).ne (s2.F (l1.map iE)).tt (s2.F (l1.map iE)).nd (s2.F (l1.map iE)).no).hp=some (.p (.bool (s2.is [44])),(bif s2.is [44]then s2.up else s2).A.hp):=cJ (m:=m) s2 _ hz2 (by omega);simp only[aa hac,aE,aw,bP];rfl
theorem Cn {m:Nat}{ex:PM Int}(hx:∀k,m=k+1→dV k 135 ex)(hm:100≤m):∀(q':Nat) (s t:PS) (n:Nat) (l l':List Int),oz PS.begins (snoc ex) 16 q' n l s=some (l',t)→n+q'<1000000→∀Q,q'≤Q→
  L_yelementsO_1 (bu lay0.tab m) m (fun(i56,i57,b58,u59,n60,l61)=>some ((.tup []),({u59 with ou:=n60,ol:=l61}:xm).hp)) (fun(i62,i63,b64,u65,n66,l67)=>some ((.tup []),({u65 with ou:=n66,ol:=l67}:xm).hp)) Q (16,(n:Int),s.A,(l.map iE).length,l.map iE)=some (.tup [],(t.O (l'.map iE)).hp)
 |0,s,t,n,l,l',h,hn,Q,hQ=>by cases h
 |q'+1,s,t,n,l,l',h,hn,Q,hQ=>by
  obtain⟨Q,rfl⟩:∃j,Q=j+1:=⟨Q - 1,by omega⟩
  rw[sZ];unfold oz at h;simp only[fC,aa (fv (m:=m) s (by omega)),aE,aw,bP];rcases bH h with⟨hk,h⟩|⟨hk,h⟩
  ·obtain⟨_,s1,h1,h⟩:=af h;obtain⟨hz,h1⟩:=bz h1;injection h1 with _ h1;obtain⟨l1,s2,h2,h⟩:=af h;obtain⟨hz2,h⟩:=aS h;have hb:=HB (m:=m) s hz (by omega);have gZ:∀(X:R),X=Q_yelementsO_1 (bu lay0.tab m) (l.map iE).length (l.map iE) s1.A (fun(i56,i57,b58,u59,n60,l61)=>some ((.tup []),({u59 with ou:=n60,ol:=l61}:xm).hp)) 16 n (L_yelementsO_1 (bu lay0.tab m) m (fun(i56,i57,b58,u59,n60,l61)=>some ((.tup []),({u59 with ou:=n60,ol:=l61}:xm).hp)) (fun(i62,i63,b64,u65,n66,l67)=>some ((.tup []),({u65 with ou:=n66,ol:=l67}:xm).hp)) Q)→X=some (.tup [],(t.O (l'.map iE)).hp):=by
    intro X hX;rw[hX,Mg hx hm h2 hz2];rcases h with⟨hc,h⟩|⟨hc,h⟩
    ·obtain⟨_,s3,h3,h⟩:=af h;obtain⟨-,rfl⟩:=bF h3;rw[hc,Bool.not_true,aU,cond_true,wS (show n<lI by unfold lI;omega)];exact Cn hx hm q' s2.up t (n+1) l1 l' h (by omega) Q (by omega)
    ·obtain⟨rfl,rfl⟩:=aH h;rw[hc];rfl
   apply gZ;rw[hk,aV];simp only[aa hb,aE,aw,bP];have f13:evFn lay0.tab m 44 [.box 0 0,.p (.int .i64 13)] s.A.hp=some (.tup [],(s.fail 13).A.hp):=fu (m:=m) s 13 (by omega);have f5:evFn lay0.tab m 44 [.box 0 0,.p (.int .i64 5)] s.A.hp=some (.tup [],(s.fail 5).A.hp):=fu (m:=m) s 5 (by omega);simp only[aa f13,aa f5,ba,aM,bP,show eqI (n:Int) 16=Nat.beq n 16 from rfl];rw[←h1];cases PS.begins s with
   |false=>rfl
   |true=>cases Nat.beq n 16<;>rfl
  ·obtain⟨rfl,rfl⟩:=aH h;rw[hk];rfl
def Q_elI (cc:ah)(vk vn:Int)(vs:LN)(n12:Nat)(l13:LD)(u:bw)(k0:Int×Int×Bool×bw×Int×Int×LN×Nat×LD→R)(i6 i7:Int)(Y:dF→R):R:=
 cc 117 [(.box 0 0),(.box 2 0)] (NS.mk vk vn vs n12 l13 u.tk u.ps u.en u.aT u.er u.ne u.tt u.nd).hp fun d28 o29=>aY d28 fun r30=>aA r30<|sf o29 fun u31=>
  cc 100 [(.box 0 0),(.p (.str [44]))] (bw.mk u31.tk u31.ps u31.en u31.aT u31.er u31.ne u31.tt u31.nd).hp fun d32 o33=>dP d32 fun x34=>aF x34 fun b35=>aK o33 fun u36=>
  iL (!b35) (k0 (i6,i7,!b35,u36,u31.vk,u31.vn,u31.vs,u31.vi,u31.il)) (Y (i6,ao .i64 (i7+1),u36,u31.vk,u31.vn,u31.vs,u31.vi,u31.il))
theorem Mc {m:Nat}(hm:100≤m){s1 s2:PS}{l l1:List Int}(h2:snoc pInt l s1=some (l1,s2))(hz2:s2.sz=true)(vk vn:Int)(vs:List Nat)(n:Nat)(k0:(Int×Int×Bool×bw×Int×Int×LN×Nat×LD)→R)(Y:dF→R):
  Q_elI (bu lay0.tab m) vk vn vs (l.map iE).length (l.map iE) s1.B k0 16 n Y=iL (!s2.is [44]) (k0 (16,(n:Int),!s2.is [44],(bif s2.is [44]then s2.up else s2).B,vk,vn,vs,(l1.map iE).length,l1.map iE)) (Y (16,ao .i64 ((n:Int)+1),(bif s2.is [44]then s2.up else s2).B,vk,vn,vs,(l1.map iE).length,l1.map iE)):=by
 unfold Q_elI;have hel:evFn lay0.tab m 117 [.box 0 0,.box 2 0] (NS.mk vk vn vs (l.map iE).length (l.map iE) s1.B.tk s1.B.ps s1.B.en s1.B.aT s1.B.er s1.B.ne s1.B.tt s1.B.nd).hp=some (.tup [],(s2.KJ vk vn vs (l1.map iE)).hp):=DR vk vn vs h2 (by omega);simp only[aa hel,ba,aM,VC];have hac:evFn lay0.tab m 100 [.box 0 0,.p (.str [44])] (bw.mk (s2.KJ vk vn vs (l1.map iE)).tk (s2.KJ vk vn vs (l1.map iE)).ps (s2.KJ vk vn vs (l1.map iE)).en (s2.KJ vk vn vs (l1.map iE)).aT (s2.KJ vk vn vs (l1.map iE)).er (s2.KJ vk vn vs (l1.map iE)).ne (s2.KJ vk vn vs (l1.map iE)).tt (s2.KJ vk vn vs (l1.map iE)).nd).hp=some (.p (.bool (s2.is [44])),(bif s2.is [44]then s2.up else s2).B.hp):=dZ (m:=m) s2 _ hz2 (by omega);simp only[aa hac,aE,aw,eX];rfl
theorem Ck {m:Nat}(hm:100≤m)(vk vn:Int)(vs:List Nat):∀(q':Nat) (s t:PS) (n:Nat) (l l':List Int),oz zK (snoc pInt) 16 q' n l s=some (l',t)→n+q'<1000000→∀Q,q'≤Q→
  L_yelementsIB_1 (bu lay0.tab m) m (fun(i59,i60,b61,u62,i63,i64,s65,n66,l67)=>some ((.tup []),({u62 with vk:=i63,vn:=i64,vs:=s65,vi:=n66,il:=l67}:jH).hp)) (fun(i59,i60,b61,u62,i63,i64,s65,n66,l67)=>some ((.tup []),({u62 with vk:=i63,vn:=i64,vs:=s65,vi:=n66,il:=l67}:jH).hp)) Q (16,(n:Int),s.B,vk,vn,vs,(l.map iE).length,l.map iE)=some (.tup [],(t.BI vk vn vs (l'.map iE)).hp)
 |0,s,t,n,l,l',h,hn,Q,hQ=>by cases h
 |q'+1,s,t,n,l,l',h,hn,Q,hQ=>by
  obtain⟨Q,rfl⟩:∃j,Q=j+1:=⟨Q - 1,by omega⟩
  rw[q7];unfold oz at h;simp only[eO,aa (lK (m:=m) s (by omega)),aE,aw,eX];rcases bH h with⟨hk,h⟩|⟨hk,h⟩
  ·obtain⟨_,s1,h1,h⟩:=af h;obtain⟨hz,h1⟩:=bz h1;injection h1 with _ h1;obtain⟨l1,s2,h2,h⟩:=af h;obtain⟨hz2,h⟩:=aS h;have hb:=(show evFn lay0.tab m 116 [.box 0 0] (tH.mk s.B.tk s.B.ps s.B.en s.B.aT s.B.er s.B.ne s.B.tt s.B.nd).hp=some (.p (.bool (zK s)),s.Pv.hp)from DQ (m:=m) s hz (by omega))
   have gZ:∀(X:R),X=Q_elI (bu lay0.tab m) vk vn vs (l.map iE).length (l.map iE) s1.B (fun(i59,i60,b61,u62,i63,i64,s65,n66,l67)=>some ((.tup []),({u62 with vk:=i63,vn:=i64,vs:=s65,vi:=n66,il:=l67}:jH).hp)) 16 n (L_yelementsIB_1 (bu lay0.tab m) m (fun(i59,i60,b61,u62,i63,i64,s65,n66,l67)=>some ((.tup []),({u62 with vk:=i63,vn:=i64,vs:=s65,vi:=n66,il:=l67}:jH).hp)) (fun(i59,i60,b61,u62,i63,i64,s65,n66,l67)=>some ((.tup []),({u62 with vk:=i63,vn:=i64,vs:=s65,vi:=n66,il:=l67}:jH).hp)) Q)→X=some (.tup [],(t.BI vk vn vs (l'.map iE)).hp):=by
    intro X hX;rw[hX,Mc hm h2 hz2];rcases h with⟨hc,h⟩|⟨hc,h⟩
    ·obtain⟨_,s3,h3,h⟩:=af h;obtain⟨-,rfl⟩:=bF h3;rw[hc,Bool.not_true,aU,cond_true,wS (show n<lI by unfold lI;omega)];exact Ck hm vk vn vs q' s2.up t (n+1) l1 l' h (by omega) Q (by omega)
    ·obtain⟨rfl,rfl⟩:=aH h;rw[hc];rfl
   apply gZ;rw[hk,aV];simp only[aa hb,aE,aw,US];have f13:evFn lay0.tab m 44 [.box 0 0,.p (.int .i64 13)] (bw.mk s.Pv.tk s.Pv.ps s.Pv.en s.Pv.aT s.Pv.er s.Pv.ne s.Pv.tt s.Pv.nd).hp=some (.tup [],(s.fail 13).B.hp):=cB (m:=m) s 13 (by omega);have f5:evFn lay0.tab m 44 [.box 0 0,.p (.int .i64 5)] (bw.mk s.Pv.tk s.Pv.ps s.Pv.en s.Pv.aT s.Pv.er s.Pv.ne s.Pv.tt s.Pv.nd).hp=some (.tup [],(s.fail 5).B.hp):=cB (m:=m) s 5 (by omega);simp only[aa f13,aa f5,ba,aM,eX,show eqI (n:Int) 16=Nat.beq n 16 from rfl];rw[←h1];cases zK s with
   |false=>rfl
   |true=>cases Nat.beq n 16<;>rfl
  ·obtain⟨rfl,rfl⟩:=aH h;rw[hk];rfl
def Q_elL (cc:ah)(vk vn:Int)(vs:LN)(n12:Nat)(l13:LD)(u:bw)(k0:Int×Int×Bool×bw×Int×Int×LN×Nat×LD→R)(i6 i7:Int)(Y:dG→R):R:=
 cc 120 [(.box 0 0),(.box 2 0)] (NT.mk vk vn vs n12 l13 u.tk u.ps u.en u.aT u.er u.ne u.tt u.nd).hp fun d28 o29=>aY d28 fun r30=>aA r30<|sg o29 fun u31=>
  cc 100 [(.box 0 0),(.p (.str [44]))] (bw.mk u31.tk u31.ps u31.en u31.aT u31.er u31.ne u31.tt u31.nd).hp fun d32 o33=>dP d32 fun x34=>aF x34 fun b35=>aK o33 fun u36=>
  iL (!b35) (k0 (i6,i7,!b35,u36,u31.vk,u31.vn,u31.vs,u31.vl,u31.il)) (Y (i6,ao .i64 (i7+1),u36,u31.vk,u31.vn,u31.vs,u31.vl,u31.il))
theorem Md {m:Nat}(hm:100≤m){s1 s2:PS}{l l1:List (List Nat)}(h2:snoc ((j6 4).bnd fun t=> .ret t.s) l s1=some (l1,s2))(hz2:s2.sz=true)(vk vn:Int)(vs:List Nat)(n:Nat)(k0:(Int×Int×Bool×bw×Int×Int×LN×Nat×LD)→R)(Y:dG→R):
  Q_elL (bu lay0.tab m) vk vn vs (l.map Da.str).length (l.map Da.str) s1.B k0 16 n Y=iL (!s2.is [44]) (k0 (16,(n:Int),!s2.is [44],(bif s2.is [44]then s2.up else s2).B,vk,vn,vs,(l1.map Da.str).length,l1.map Da.str)) (Y (16,ao .i64 ((n:Int)+1),(bif s2.is [44]then s2.up else s2).B,vk,vn,vs,(l1.map Da.str).length,l1.map Da.str)):=by
 unfold Q_elL;have hel:evFn lay0.tab m 120 [.box 0 0,.box 2 0] (NT.mk vk vn vs (l.map Da.str).length (l.map Da.str) s1.B.tk s1.B.ps s1.B.en s1.B.aT s1.B.er s1.B.ne s1.B.tt s1.B.nd).hp=some (.tup [],(s2.KM vk vn vs (l1.map Da.str)).hp):=DT vk vn vs h2 (by omega);simp only[aa hel,ba,aM,VD];have hac:evFn lay0.tab m 100 [.box 0 0,.p (.str [44])] (bw.mk (s2.KM vk vn vs (l1.map Da.str)).tk (s2.KM vk vn vs (l1.map Da.str)).ps (s2.KM vk vn vs (l1.map Da.str)).en (s2.KM vk vn vs (l1.map Da.str)).aT (s2.KM vk vn vs (l1.map Da.str)).er (s2.KM vk vn vs (l1.map Da.str)).ne (s2.KM vk vn vs (l1.map Da.str)).tt (s2.KM vk vn vs (l1.map Da.str)).nd).hp=some (.p (.bool (s2.is [44])),(bif s2.is [44]then s2.up else s2).B.hp):=dZ (m:=m) s2 _ hz2 (by omega);simp only[aa hac,aE,aw,eX];rfl
theorem Cl {m:Nat}(hm:100≤m)(vk vn:Int)(vs:List Nat):∀(q':Nat) (s t:PS) (n:Nat) (l l':List (List Nat)),oz zM (snoc ((j6 4).bnd fun t=> .ret t.s)) 16 q' n l s=some (l',t)→n+q'<1000000→∀Q,q'≤Q→
  L_yelementsLB_1 (bu lay0.tab m) m (fun(i59,i60,b61,u62,i63,i64,s65,n66,l67)=>some ((.tup []),({u62 with vk:=i63,vn:=i64,vs:=s65,vl:=n66,il:=l67}:jI).hp)) (fun(i59,i60,b61,u62,i63,i64,s65,n66,l67)=>some ((.tup []),({u62 with vk:=i63,vn:=i64,vs:=s65,vl:=n66,il:=l67}:jI).hp)) Q (16,(n:Int),s.B,vk,vn,vs,(l.map Da.str).length,l.map Da.str)=some (.tup [],(t.BL vk vn vs (l'.map Da.str)).hp)
 |0,s,t,n,l,l',h,hn,Q,hQ=>by cases h
 |q'+1,s,t,n,l,l',h,hn,Q,hQ=>by
  obtain⟨Q,rfl⟩:∃j,Q=j+1:=⟨Q - 1,by omega⟩
  rw[q8];unfold oz at h;simp only[eP,aa (lK (m:=m) s (by omega)),aE,aw,eX];rcases bH h with⟨hk,h⟩|⟨hk,h⟩
  ·obtain⟨_,s1,h1,h⟩:=af h;obtain⟨hz,h1⟩:=bz h1;injection h1 with _ h1;obtain⟨l1,s2,h2,h⟩:=af h;obtain⟨hz2,h⟩:=aS h;have hb:=(show evFn lay0.tab m 119 [.box 0 0] (tH.mk s.B.tk s.B.ps s.B.en s.B.aT s.B.er s.B.ne s.B.tt s.B.nd).hp=some (.p (.bool (zM s)),s.Pv.hp)from DS (m:=m) s hz (by omega))
   have gZ:∀(X:R),X=Q_elL (bu lay0.tab m) vk vn vs (l.map Da.str).length (l.map Da.str) s1.B (fun(i59,i60,b61,u62,i63,i64,s65,n66,l67)=>some ((.tup []),({u62 with vk:=i63,vn:=i64,vs:=s65,vl:=n66,il:=l67}:jI).hp)) 16 n (L_yelementsLB_1 (bu lay0.tab m) m (fun(i59,i60,b61,u62,i63,i64,s65,n66,l67)=>some ((.tup []),({u62 with vk:=i63,vn:=i64,vs:=s65,vl:=n66,il:=l67}:jI).hp)) (fun(i59,i60,b61,u62,i63,i64,s65,n66,l67)=>some ((.tup []),({u62 with vk:=i63,vn:=i64,vs:=s65,vl:=n66,il:=l67}:jI).hp)) Q)→X=some (.tup [],(t.BL vk vn vs (l'.map Da.str)).hp):=by
    intro X hX;rw[hX,Md hm h2 hz2];rcases h with⟨hc,h⟩|⟨hc,h⟩
    ·obtain⟨_,s3,h3,h⟩:=af h;obtain⟨-,rfl⟩:=bF h3;rw[hc,Bool.not_true,aU,cond_true,wS (show n<lI by unfold lI;omega)];exact Cl hm vk vn vs q' s2.up t (n+1) l1 l' h (by omega) Q (by omega)
    ·obtain⟨rfl,rfl⟩:=aH h;rw[hc];rfl
   apply gZ;rw[hk,aV];simp only[aa hb,aE,aw,US];have f13:evFn lay0.tab m 44 [.box 0 0,.p (.int .i64 13)] (bw.mk s.Pv.tk s.Pv.ps s.Pv.en s.Pv.aT s.Pv.er s.Pv.ne s.Pv.tt s.Pv.nd).hp=some (.tup [],(s.fail 13).B.hp):=cB (m:=m) s 13 (by omega);have f5:evFn lay0.tab m 44 [.box 0 0,.p (.int .i64 5)] (bw.mk s.Pv.tk s.Pv.ps s.Pv.en s.Pv.aT s.Pv.er s.Pv.ne s.Pv.tt s.Pv.nd).hp=some (.tup [],(s.fail 5).B.hp):=cB (m:=m) s 5 (by omega);simp only[aa f13,aa f5,ba,aM,eX,show eqI (n:Int) 16=Nat.beq n 16 from rfl];rw[←h1];cases zM s with
   |false=>rfl
   |true=>cases Nat.beq n 16<;>rfl
  ·obtain⟨rfl,rfl⟩:=aH h;rw[hk];rfl
end
end Go.Ab
end
section
namespace Go.Ab
open Go
set_option maxRecDepth 100000
noncomputable section
def RunF (c g:Nat)(p:PM Int):Prop:=∀m,c≤m→dV m g p
theorem RunF.le {c d g:Nat}{p:PM Int}(h:RunF c g p)(hd:c≤d):RunF d g p:=fun m hm=>h m (by omega)
theorem fF {α:Type}{c:PS→Bool}{p q:PM α}{s:PS}{r:α×PS}(h:cnd c p q s=some r)(hc:c s=true):p s=some r:=by
 rcases(aS h).2 with⟨-,h⟩|⟨h1,-⟩
 ·exact h
 ·rw[hc]at h1;cases h1
theorem fE {α:Type}{c:PS→Bool}{p q:PM α}{s:PS}{r:α×PS}(h:cnd c p q s=some r)(hc:c s=false):q s=some r:=by
 rcases(aS h).2 with⟨h1,-⟩|⟨-,h⟩
 ·rw[hc]at h1;cases h1
 ·exact h
theorem y7 {c m q:Nat}{ex:PM Int}(hx:RunF c 135 ex)(hc:c+2≤m)(h1:110≤m)(hq:q+1≤m)(hq':q<1000000){s t:PS}{l l':List Int}(h:Gx PS.begins (snoc ex) 16 q l s=some (l',t)):
  evFn lay0.tab m 104 [.box 0 0,.p (.int .i64 16),.fn 1000153 [.box 0 0],.fn 154 [.box 1 0,.box 2 0]] (s.O (l.map iE)).hp=some (.tup [],(t.O (l'.map iE)).hp):=by
 obtain⟨m,rfl,-⟩:=aO (show 0+1≤m by omega);apply zA m (s.O (l.map iE)) 16;unfold kG;obtain⟨hz,h⟩:=aS h;have e1:evFn lay0.tab m 43 [.box 0 0,.p (.str [41])] (bi.mk (s.O (l.map iE)).tk (s.O (l.map iE)).ps (s.O (l.map iE)).en (s.O (l.map iE)).aT (s.O (l.map iE)).er (s.O (l.map iE)).ne (s.O (l.map iE)).tt (s.O (l.map iE)).nd (s.O (l.map iE)).no).hp=some (.p (.bool (s.is [41])),s.A.hp):=f3 (m:=m) s _ hz (by omega);simp only[aa e1,aE,aw,bP];rcases h with⟨hk,h⟩|⟨hk,h⟩
 ·obtain⟨rfl,rfl⟩:=aH h;rw[hk];rfl
 ·rw[hk,aU];exact Cn (fun k hk=>hx k (by omega)) (by omega) q s t 0 l l' h (by omega) m (by omega)
theorem kw {c m q:Nat}{ex:PM Int}(hx:RunF c 135 ex)(hc:c+3≤m)(h1:120≤m)(hq:q+2≤m)(hq':q<1000000){s t:PS}{l:List Int}(h:sD ex q s=some (l,t)):
  evFn lay0.tab m 145 [.box 0 0] s.A.hp=some (.p (.slice 1 (l.map iE)),t.A.hp):=by
 obtain⟨m,rfl,-⟩:=aO (show 0+1≤m by omega);apply zt m s.A;unfold kC;obtain⟨_,s1,h2,h⟩:=af h;obtain⟨hz,rfl⟩:=qg h2;obtain⟨l1,s2,h3,h⟩:=af h;obtain⟨_,s3,h4,h⟩:=af h;obtain⟨hz2,rfl⟩:=rg h4;obtain⟨rfl,rfl⟩:=aH h;have e1:evFn lay0.tab m 104 [.box 0 0,.p (.int .i64 16),.fn 1000153 [.box 0 0],.fn 154 [.box 1 0,.box 2 0]] (xm.mk (s.open [40]).A.tk (s.open [40]).A.ps (s.open [40]).A.en (s.open [40]).A.aT (s.open [40]).A.er (s.open [40]).A.ne (s.open [40]).A.tt (s.open [40]).A.nd 0 (s.open [40]).A.no []).hp=some (.tup [],(s2.O (l1.map iE)).hp):=y7 hx (by omega) (by omega) (by omega) hq' h3;have e2:evFn lay0.tab m 124 [.box 0 0,.p (.str [41])] (bi.mk (s2.O (l1.map iE)).tk (s2.O (l1.map iE)).ps (s2.O (l1.map iE)).en (s2.O (l1.map iE)).aT (s2.O (l1.map iE)).er (s2.O (l1.map iE)).ne (s2.O (l1.map iE)).tt (s2.O (l1.map iE)).nd (s2.O (l1.map iE)).no).hp=some (.tup [],(s2.close [41]).A.hp):=ug (m:=m) s2 _ hz2 (by omega);simp only[aa (tF (m:=m) s _ hz (by omega)),ba,aM,bP,aa e1,VJ,aa e2];have e3:List.take (s2.O (l1.map iE)).ou (List.drop 0 (s2.O (l1.map iE)).ol)=l1.map iE:=by
  show List.take (l1.map iE).length (List.drop 0 (l1.map iE))=_;rw[List.drop_zero,List.take_length]
 rw[e3]
theorem vf {c:PM Va}{s t:PS}{v:Va}(h:ig c s=some (v,t)):s.sz=true∧(eqI (s.peek 0).k 4=true∧(⟨3,0,(s.peek 0).s,[],[]⟩,s.up)=(v,t)∨eqI (s.peek 0).k 4=false∧s.is [116,114,117,101]=true∧(⟨2,1,[],[],[]⟩,s.up)=(v,t)∨
  eqI (s.peek 0).k 4=false∧s.is [116,114,117,101]=false∧s.is [102,97,108,115,101]=true∧(⟨2,0,[],[],[]⟩,s.up)=(v,t)∨eqI (s.peek 0).k 4=false∧s.is [116,114,117,101]=false∧s.is [102,97,108,115,101]=false∧c s=some (v,t)):=by
 obtain⟨hz,h⟩:=aS h;refine⟨hz,?_⟩;rcases h with⟨h1,h⟩|⟨h1,h⟩
 ·exact .inl ⟨h1,(bz h).2⟩
 ·rcases(aS h).2 with⟨h2,h⟩|⟨h2,h⟩
  ·exact .inr (.inl ⟨h1,h2,(bz h).2⟩)
  ·rcases(aS h).2 with⟨h3,h⟩|⟨h3,h⟩
   ·exact .inr (.inr (.inl ⟨h1,h2,h3,(bz h).2⟩))
   ·exact .inr (.inr (.inr ⟨h1,h2,h3,h⟩))
theorem TZ {s:PS}(hz:s.sz=true){k:Int}(hk:k≠0)(h:eqI (s.peek 0).k k=true):ao .i64 ((s.ps:Int)+1)=((s.ps+1:Nat):Int):=by
 rw[dJ,lγ]at h;exact Jy hz (ju hz 0 (by rw[h];exact hk))
theorem UH {s:PS}(hz:s.sz=true){k:Int}(hk:k≠0)(h:eqI (s.peek 0).k k=true):({s.A with ps:=ao .i64 (s.A.ps+1)}:bi)=s.up.A:=by
 show(⟨_,ao .i64 ((s.ps:Int)+1),_,_,_,_,_,_,_⟩:bi)=_;rw[TZ hz hk h];rfl
theorem VS {s:PS}(hz:s.sz=true){k:Int}(hk:k≠0)(h:eqI (s.peek 0).k k=true):({s.B with ps:=ao .i64 (s.B.ps+1)}:bw)=s.up.B:=by
 show(⟨_,ao .i64 ((s.ps:Int)+1),_,_,_,_,_,_⟩:bw)=_;rw[TZ hz hk h];rfl
theorem y4 {m:Nat}{s t:PS}{v:Va}(h:ig (fun _=>none) s=some (v,t))(hm:70≤m):evFn lay0.tab m 103 [.box 0 0] s.A.hp=some (.p v.e,t.A.hp):=by
 replace hm:=aO hm;obtain⟨m,rfl,hm⟩:=hm;apply zu m s.A;unfold kD;obtain⟨hz,h⟩:=vf h;have hp:=iw (m:=m) s 0 (by decide) hz (by omega);simp only[show((0:Nat):Int)=0 from rfl]at hp;simp only[aa hp,aE,xA,bP,show(s.peek 0).r.Kind=(s.peek 0).k from rfl];rcases h with⟨h1,h⟩|⟨h1,h2,h⟩|⟨h1,h2,h3,h⟩|⟨-,-,-,h⟩
 ·injection h with h4 h5;subst h4 h5;rw[h1,aV,UH hz (by decide) h1];rfl
 ·injection h with h4 h5;subst h4 h5;rw[h1,aU];simp only[aa (cJ (m:=m) s _ hz (by omega)),aE,aw,bP];rw[h2,aV];rfl
 ·injection h with h4 h5;subst h4 h5;rw[h1,aU];simp only[aa (cJ (m:=m) s _ hz (by omega)),aE,aw,bP];rw[h2,aU,cond_false];simp only[aa (cJ (m:=m) s _ hz (by omega)),aE,aw,bP];rw[h3,aV];rfl
 ·cases h
theorem ql {s t:PS}{x:Tk}(h:pPeek s=some (x,t)):s.sz=true∧s.peek 0=x∧s=t:=by
 obtain⟨h1,h2⟩:=bz h;injection h2 with h2 h3;exact⟨h1,h2,h3⟩
theorem DY {c m q:Nat}{ex:PM Int}(hx:RunF c 135 ex)(hc:c+4≤m)(hm1:130≤m)(hq:q+3≤m)(hq':q<1000000):dV m 162 (nH ex q):=by
 obtain⟨m,rfl,-⟩:=aO (show 0+1≤m by omega);intro s t a h;apply Eo m s.A;unfold nZ k8 k9;unfold nH at h;have hz:=(aS h).1;have hp0:=iw (m:=m) s 0 (by decide) hz (by omega);have hp1:=iw (m:=m) s 1 (by decide) hz (by omega);simp only[show((0:Nat):Int)=0 from rfl]at hp0;simp only[show((1:Nat):Int)=1 from rfl]at hp1;have hq5:∀(d:D) (o:List Ob),ep d o=dP d fun x=>ar .i64 x fun i=>av o fun u=>some (.p (.int .i64 i),u.hp):=fun d o=>rfl
 have ha:=fun(x:No) (s:PS) (h:dX x s=some (a,t))=>ku (m:=m) h (by omega)
 have his:=fun x=>f3 (m:=m) s x hz (by omega)
 simp only[aa hp0,aa hp1,aE,xA,bP,show ∀x:Tk,x.r.Kind=x.k from fun _=>rfl,show ∀x:Tk,x.r.Text=x.s from fun _=>rfl,show ∀x:Tk,x.r.Num=x.n from fun _=>rfl];have app:∀(K:Bool→R),iL (eqI (s.peek 1).k 5) (K (cM (s.peek 1).s [40])) (K false)=K s.appl:=by
  intro K;unfold PS.appl;cases eqI (s.peek 1).k 5<;>rfl
 refine(app fun b=>iL (eqI (s.peek 0).k 1) (iL (!b) ?X ?Y) (iL false ?X ?Y)).trans ?_;cases hk1:eqI (s.peek 0).k 1 with
 |true=>
  cases hap:s.appl with
  |false=>
   have h:=fF h (by rw[hk1,hap];rfl);obtain⟨x,s1,h1,h⟩:=af h;obtain⟨-,rfl,rfl⟩:=ql h1;obtain⟨_,s2,h2,h⟩:=af h;obtain⟨-,rfl⟩:=bF h2;have ha':evFn lay0.tab m 123 [(.box 0 0),(.p (.agg [(.int .i64 2),(.str (s.peek 0).s),(.int .i64 0),(.int .i64 0),(.str []),(.slice 1 []),(.slice 1 []),(.slice 1 [])]))] s.up.A.hp=some (.p (.int .i64 a),t.A.hp):=ha _ _ h;rw[UH hz (by decide) hk1];simp only[aV,Bool.not_false,aa ha',hq5,aE,aP,bP]
  |true=>
   have h:=fE h (by rw[hk1,hap];rfl);have h:=fF h (by rw[hk1];rfl);obtain⟨x,s1,h1,h⟩:=af h;obtain⟨-,rfl,rfl⟩:=ql h1;obtain⟨_,s2,h2,h⟩:=af h;obtain⟨-,rfl⟩:=bF h2;obtain⟨l,s3,h3,h⟩:=af h;have hr:=kw (m:=m) hx (by omega) (by omega) (by omega) hq' h3;have ha':evFn lay0.tab m 123 [(.box 0 0),(.p (.agg [(.int .i64 6),(.str (s.peek 0).s),(.int .i64 0),(.int .i64 0),(.str []),(.slice 1 []),(.slice 1 []),(.slice 1 (l.map iE))]))] s3.A.hp=some (.p (.int .i64 a),t.A.hp):=ha _ _ h;simp only[aV,Bool.not_true,aU];unfold eo;rw[UH hz (by decide) hk1];simp only[aa hr,aE,se,bP,show ∀x:Tk,x.r.Text=x.s from fun _=>rfl,aa ha',hq5,aP]
 |false=>
  have h:=fE h (by rw[hk1];rfl);simp only[aU];have q4:(s.is [105,110,116,115]||s.is [115,116,114,105,110,103,115])=true→eo (bu lay0.tab m) s.A (s.peek 0).r=some (.p (.int .i64 a),t.A.hp):=by
   intro hi;have h:=fF h (by rw[hk1,hi];rfl);obtain⟨x,s1,h1,h⟩:=af h;obtain⟨-,rfl,rfl⟩:=ql h1;obtain⟨_,s2,h2,h⟩:=af h;obtain⟨-,rfl⟩:=bF h2;obtain⟨l,s3,h3,h⟩:=af h;have hr:=kw (m:=m) hx (by omega) (by omega) (by omega) hq' h3;have ha':evFn lay0.tab m 123 [(.box 0 0),(.p (.agg [(.int .i64 6),(.str (s.peek 0).s),(.int .i64 0),(.int .i64 0),(.str []),(.slice 1 []),(.slice 1 []),(.slice 1 (l.map iE))]))] s3.A.hp=some (.p (.int .i64 a),t.A.hp):=ha _ _ h;have hup:({s.A with ps:=ao .i64 (s.A.ps+1)}:bi)=s.up.A:=by
    have hps:s.ps<s.tk.length:=by
     rw[mρ]at hi;rcases hi with hi|hi
     ·exact dr hz hi
     ·exact dr hz hi
    show(⟨_,ao .i64 ((s.ps:Int)+1),_,_,_,_,_,_,_⟩:bi)=_;rw[Jy hz hps];rfl
   unfold eo;rw[hup];simp only[aa hr,aE,se,bP,show ∀x:Tk,x.r.Text=x.s from fun _=>rfl,aa ha',hq5,aP]
  have q1:(s.is [105,110,116,115]||s.is [115,116,114,105,110,103,115])=false→fx (s.peek 0).r (bu lay0.tab m) s.A=some (.p (.int .i64 a),t.A.hp):=by
   intro hi;have h:=fE h (by rw[hk1,hi];rfl);unfold fx;simp only[show ∀x:Tk,x.r.Kind=x.k from fun _=>rfl,show ∀x:Tk,x.r.Num=x.n from fun _=>rfl];cases hk3:eqI (s.peek 0).k 3 with
   |true=>
    have h:=fF h hk3;obtain⟨x,s1,h1,h⟩:=af h;obtain⟨-,rfl,rfl⟩:=ql h1;obtain⟨_,s2,h2,h⟩:=af h;obtain⟨-,rfl⟩:=bF h2;have ha':evFn lay0.tab m 123 [(.box 0 0),(.p (.agg [(.int .i64 1),(.str []),(.int .i64 1),(.int .i64 (s.peek 0).n),(.str []),(.slice 1 []),(.slice 1 []),(.slice 1 [])]))] s.up.A.hp=some (.p (.int .i64 a),t.A.hp):=ha _ _ h;rw[UH hz (by decide) hk3];simp only[aV,aa ha',hq5,aE,aP,bP]
   |false=>
    have h:=fE h hk3;simp only[aU];have q3:(eqI (s.peek 0).k 4||(s.is [116,114,117,101]||s.is [102,97,108,115,101]))=true→fA (bu lay0.tab m) s.A=some (.p (.int .i64 a),t.A.hp):=by
     intro hj;have h:=fF h hj;obtain⟨v,s1,h1,h⟩:=af h;have hcst:=y4 (m:=m) h1 (by omega);have ha':evFn lay0.tab m 123 [(.box 0 0),(.p (.agg [(.int .i64 1),(.str []),(.int .i64 v.r.Kind),(.int .i64 v.r.N),(.str v.r.S),(.slice 1 v.r.I),(.slice 1 v.r.L),(.slice 1 [])]))] s1.A.hp=some (.p (.int .i64 a),t.A.hp):=ha _ _ h;unfold fA;simp only[aa hcst,aE,Vr,bP,aa ha',hq5,aP]
    have q2:(eqI (s.peek 0).k 4||(s.is [116,114,117,101]||s.is [102,97,108,115,101]))=false→fy (bu lay0.tab m) s.A=some (.p (.int .i64 a),t.A.hp):=by
     intro hj;have h:=fE h hj;unfold fy;simp only[aa (cJ (m:=m) s _ hz (by omega)),aE,aw,bP];cases hs:s.is [115,101,108,102]with
     |true=>
      have h:=fF h hs;obtain⟨_,s2,h2,h⟩:=af h;obtain⟨-,rfl⟩:=bF h2;have ha':evFn lay0.tab m 123 [(.box 0 0),(.p (.agg [(.int .i64 3),(.str []),(.int .i64 0),(.int .i64 0),(.str []),(.slice 1 []),(.slice 1 []),(.slice 1 [])]))] s.up.A.hp=some (.p (.int .i64 a),t.A.hp):=ha _ _ h;simp only[aV,cond_true,aa ha',hq5,aE,aP,bP]
     |false=>
      have h:=fE h hs;simp only[aU,cond_false,aa (his _),aE,aw,bP];cases ho:s.is [40]with
      |true=>
       have h:=fF h ho;obtain⟨_,s1,h1,h⟩:=af h;obtain⟨-,rfl⟩:=qg h1;obtain⟨x,s2,h2,h⟩:=af h;obtain⟨_,s3,h3,h⟩:=af h;obtain⟨hz3,rfl⟩:=rg h3;obtain⟨rfl,rfl⟩:=aH h;have hcl:=ug (m:=m) s2 [41] hz3 (by omega);simp only[aV,aa (tF (m:=m) s [40] hz (by omega)),ba,aM,bP,aa (fv (m:=m) (s.open [40]) (by omega)),aE,aw];rcases bH h2 with⟨hk,h2⟩|⟨hk,h2⟩
       ·have he:=hx m (by omega) _ _ _ h2;simp only[hk,aV,aa he,aE,aP,bP,aa hcl,ba,aM]
       ·obtain⟨rfl,rfl⟩:=aH h2;simp only[hk,aU,aa hcl,ba,aM,bP]
      |false=>
       have h:=fE h ho;obtain⟨_,s1,h1,h⟩:=af h;obtain⟨-,rfl⟩:=Cy h1;obtain⟨rfl,rfl⟩:=aH h;simp only[aU,aa (fu (m:=m) s 13 (by omega)),ba,aM,bP]
    cases hk4:eqI (s.peek 0).k 4 with
    |true=>
     simp only[aV];exact q3 (by rw[hk4];rfl)
    |false=>
     simp only[aU,aa (his _),aE,aw,bP];cases ht:s.is [116,114,117,101]with
     |true=>
      simp only[aV];exact q3 (by rw[hk4,ht];rfl)
     |false=>
      simp only[aU,aa (his _),aE,aw,bP];cases hf:s.is [102,97,108,115,101]with
      |true=>exact q3 (by rw[hk4,ht,hf];rfl)
      |false=>exact q2 (by rw[hk4,ht,hf];rfl)
  simp only[aa (his _),aE,aw,bP];cases hi:s.is [105,110,116,115]with
  |true=>
   simp only[aV];exact q4 (by rw[hi];rfl)
  |false=>
   simp only[aU,aa (his _),aE,aw,bP];cases hs:s.is [115,116,114,105,110,103,115]with
   |true=>exact q4 (by rw[hi,hs];rfl)
   |false=>exact q1 (by rw[hi,hs];rfl)
def TP:Nat→Nat
 |0=>135
 |1=>147
 |2=>156
 |3=>159
 |4=>160
 |5=>161
 |_=>162
theorem Mq {q:Nat}(hq:q<1000000):∀f lvl,lvl≤6→RunF (q+200+6*f) (TP lvl) (pK q f lvl)
 |0,lvl,hl=>fun m hm s t a h=>by simp only[pK]at h;cases h
 |f+1,lvl,hl=>by
  intro m hm;obtain⟨k,rfl⟩:∃k,m=k+2:=⟨m - 2,by omega⟩
  have ih:=fun l h=>Mq hq f l h
  match lvl,hl with
  |0,_=>exact N2 (ih 1 (by omega) k (by omega)) (by omega) (by omega)
  |1,_=>exact N1 (ih 2 (by omega) k (by omega)) (by omega) (by omega)
  |2,_=>exact Rk (ih 3 (by omega) (k+1) (by omega)) (by omega)
  |3,_=>exact Rl (ih 4 (by omega) k (by omega)) (by omega) (by omega)
  |4,_=>exact N3 (ih 5 (by omega) k (by omega)) (by omega) (by omega)
  |5,_=>exact HC (ih 5 (by omega) (k+1) (by omega)) (ih 6 (by omega) (k+1) (by omega)) (by omega)
  |6,_=>exact DY (ih 0 (by omega)) (by omega) (by omega) (by omega) hq
end
end Go.Ab
end
section
namespace Go.Ab
open Go
set_option maxRecDepth 100000
noncomputable section
def kO (b:Nat)(l:List Int):Prop:=∀k∈l,0≤k∧k<(b:Int)
theorem vC (hs:List Int){i:Nat}(h:i<hs.length):(hs.map iE)[i]?=some (iE (hs.getD i 0)):=by
 simp[lε h,lρ]
theorem Vx (x:No):x.r.Op=x.op:=rfl
theorem VO (x:No):x.r.Kids=x.kids.map iE:=rfl
theorem TT {m:Nat}(k0:Nat×Nat×Int×Int×Nat×Int×Int×LD×Int×Int×Bool×LD×LD×b6→R)(a c:Nat)(N:Nat)(i5 i4 i6:Int)(b:LD)(x:No)(hs:List Int)(hN:N=hs.length)(hk:kO N x.kids)(hl:x.kids.length<10000):∀(e q j:Nat) (mx:Int),j+e=x.kids.length→e<q→
  L_yheight_2 (bu lay0.tab m) m k0 q (a,N,i5,mx,c,i4,i6,x.kids.map iE,(x.kids.length:Int),(j:Int),b,hs.map iE,x.r)=k0 (a,N,i5,hK x.op hs (x.kids.drop j) j mx,c,i4,i6,x.kids.map iE,(x.kids.length:Int),(x.kids.length:Int),false,b,hs.map iE,x.r)
 |0,q+1,j,mx,h,_=>by
  obtain rfl:j=x.kids.length:=by omega
  rw[pf];simp only[gK,Fi,aU,List.drop_length,hK]
 |e+1,q+1,j,mx,h,hq=>by
  have hj:j<x.kids.length:=by omega
  obtain⟨g1,g2⟩:=hk x.kids[j] (mω _);have g3:x.kids[j].toNat<hs.length:=by omega
  rw[pf,mα hj];simp only[gK,DO (show((j:Int)<(x.kids.length:Int)) by omega),aV,jl,KY,KC hj,fX,dI,nv g1,DO g2,Nat.zero_add,vC hs g3,Vx,wS (show j<lI by unfold lI;omega),hK];cases eqI x.op 11<;>cases eqI x.op 12<;>cases eqI (j:Int) 0<;>exact TT k0 a c N i5 i4 i6 b x hs hN hk hl e q (j+1) _ (by omega) (by omega)
theorem TS {m:Nat}(k0:Nat×Nat×Nat×Int×Int×Bool×LD×LD→R)(ns:List No)(hm:10001<m)(hk:∀x∈ns,kO ns.length x.kids)(hkl:∀x∈ns,x.kids.length<10000)(hl:ns.length<10000):∀(e q i:Nat) (hs:List Int),i+e=ns.length→e<q→hs.length=ns.length→
  L_yheight_1 (bu lay0.tab m) m k0 q (ns.length,ns.length,ns.length,(ns.length:Int),(i:Int),ns.map No.e,hs.map iE)=k0 (ns.length,ns.length,ns.length,(ns.length:Int),(ns.length:Int),false,ns.map No.e,(hN (ns.drop i) i hs).map iE)
 |0,q+1,i,hs,h,_,hhs=>by
  obtain rfl:i=ns.length:=by omega
  rw[pd];simp only[gJ,Fi,aU,List.drop_length,hN]
 |e+1,q+1,i,hs,h,hq,hhs=>by
  have hi:i<ns.length:=by omega
  have hx:ns[i]∈ns:=mω _;rw[pd,mα hi];have hat:(ns.map No.e)[i]?=some (No.e ns[i]):=by simp[lε hi]
  simp only[gJ,DO (show((i:Int)<(ns.length:Int)) by omega),aV,nv (show(0:Int)≤(i:Int) by omega),Nat.zero_add,Int.toNat_natCast,hat,fX,VG,VO,lμ];have g2:=fun k0'=>TT (m:=m) k0' ns.length ns.length ns.length i ns.length i (ns.map No.e) ns[i] hs hhs.symm (hk _ hx) (hkl _ hx) ns[i].kids.length m 0 0 (by omega) (by have:=hkl _ hx;omega)
  simp only[show((0:Nat):Int)=0 from rfl,List.drop_zero]at g2;rw[g2];simp only[hN];have gZ:L_yheight_1 (bu lay0.tab m) m k0 q (ns.length,ns.length,ns.length,(ns.length:Int),((i+1:Nat):Int),ns.map No.e,(hs.map iE).set i (iE (PQ ns[i].op (hK ns[i].op hs ns[i].kids 0 0))))=k0 (ns.length,ns.length,ns.length,(ns.length:Int),(ns.length:Int),false,ns.map No.e,(hN (ns.drop (i+1)) (i+1) (hs.set i (PQ ns[i].op (hK ns[i].op hs ns[i].kids 0 0)))).map iE):=by
   rw[←List.map_set];exact TS k0 ns hm hk hkl hl e q (i+1) _ (by omega) (by omega) (by simp[hhs])
  rw[←gZ];unfold dh dj;simp only[Vx,nv (show(0:Int)≤(i:Int) by omega),aV,DO (show((i:Int)<(ns.length:Int)) by omega),Nat.zero_add,Int.toNat_natCast,vC hs (show i<hs.length by omega),fX,dI,wS (show i<lI by unfold lI;omega)];unfold PQ;cases eqI ns[i].op 4<;>cases eqI ns[i].op 5<;>cases eqI ns[i].op 6<;>cases eqI ns[i].op 7<;>cases eqI ns[i].op 15<;>cases eqI ns[i].op 16<;>cases eqI ns[i].op 17<;>cases eqI ns[i].op 18<;>rfl
theorem MD:∀(l:List No) (i:Nat) (hs:List Int),(hN l i hs).length=hs.length
 |[],_,_=>rfl
 |x::r,i,hs=>by simp only[hN];rw[MD];simp
theorem HD {m:Nat}(ns:List No)(h0:0<ns.length)(hk:∀x∈ns,kO ns.length x.kids)(hkl:∀x∈ns,x.kids.length<10000)(hl:ns.length<10000)(hm:10005≤m):evFn lay0.tab m 55 [.arr 0 0 ns.length 8] [.arr (ns.map No.e)]=some (.p (.int .i64 (jp ns)),[.arr (ns.map No.e)]):=by
 replace hm:=aO hm;obtain⟨m,rfl,hm⟩:=hm;apply HX m (ns.map No.e) ns.length;unfold qO jp;have hw:ao .i64 ((ns.length:Int) - 1)=((ns.length - 1:Nat):Int):=by rw[gT (by omega) (by omega)];omega
 have hr:List.replicate ns.length (Da.int .i64 0)=(List.replicate ns.length (0:Int)).map iE:=by simp[iE]
 have g:=fun k0=>TS (m:=m) k0 ns (by omega) hk hkl hl ns.length m 0 (List.replicate ns.length 0) (by omega) (by omega) (by simp)
 simp only[show((0:Nat):Int)=0 from rfl,List.drop_zero]at g;simp only[lμ,Int.toNat_natCast,hr,g,j1,show(0:Int)≤(ns.length:Int) by omega,Int.le_refl,decide_true,Bool.true_and,show Nat.ble (ns.length*8) 281474976710656=true by rw[Nat.ble_eq];omega,show(ns.length:Int)≤9223372036854775807 by omega,aV,dJ,show ¬((ns.length:Int)=0) by omega,decide_false,aU,hw,show(0:Int)≤((ns.length - 1:Nat):Int) by omega,DO (show((ns.length - 1:Nat):Int)<(ns.length:Int) by omega),Nat.zero_add];rw[vC _ (by rw[MD];simp;omega)];rfl
end
end Go.Ab
end
section
namespace Go.Ab
open Go
set_option maxRecDepth 100000
noncomputable section
theorem Kw {m:Nat}{s t:PS}{op:Int}{nm tx:List Nat}{l:List Int}{i:Int}(h:dX ⟨op,nm,⟨0,0,tx,[],[]⟩,l⟩ s=some (i,t))(hm:2≤m):
  evFn lay0.tab m 123 [.box 0 0,.agg [.p (.int .i64 op),.p (.str nm),.p (.int .i64 0),.p (.int .i64 0),.p (.str tx),.p (.slice 1 []),.p (.slice 1 []),.arr 1 0 (List.length (l.map iE)) 1]] (Eb.mk s.A.tk s.A.ps s.A.en s.A.aT s.A.er s.A.ne s.A.tt s.A.nd (l.map iE) s.A.no).hp=some (.p (.int .i64 i),(t.D (l.map iE)).hp):=by
 have:=NZ (m:=m) h hm;rw[←lμ (f:=iE)]at this;exact this
theorem C0 {s t:PS}{x:List Nat}(h:pName s=some (x,t)):s.sz=true∧(s.take 1).1.s=x∧(s.take 1).2=t:=by
 obtain⟨k,s1,h1,h⟩:=af h;obtain⟨hz,h1⟩:=DG h1;obtain⟨rfl,rfl⟩:=aH h;rw[h1];exact⟨hz,rfl,rfl⟩
theorem tD {m:Nat}{s t:PS}{x:List Nat}(h:pName s=some (x,t))(hm:63≤m):evFn lay0.tab m 75 [.box 0 0] s.A.hp=some (.p (.str x),t.A.hp):=by
 obtain⟨hz,rfl,rfl⟩:=C0 h;exact JM s hz hm
theorem tE {m:Nat}{s t:PS}{x:List Nat}(h:pName s=some (x,t))(hm:63≤m):evFn lay0.tab m 75 [.box 0 0] s.B.hp=some (.p (.str x),t.B.hp):=by
 obtain⟨hz,rfl,rfl⟩:=C0 h;exact JN s hz hm
theorem qI {m:Nat}{s t:PS}{u:Unit}{x:List Nat}(h:fd x s=some (u,t))(hm:63≤m):evFn lay0.tab m 74 [.box 0 0,.p (.str x)] s.A.hp=some (.tup [],t.A.hp):=by
 obtain⟨hz,rfl⟩:=GB h;exact nN s x hz hm
theorem eU {m:Nat}{s t:PS}{u:Unit}{x:List Nat}(h:fd x s=some (u,t))(hm:63≤m):evFn lay0.tab m 74 [.box 0 0,.p (.str x)] s.B.hp=some (.tup [],t.B.hp):=by
 obtain⟨hz,rfl⟩:=GB h;exact DU s x hz hm
theorem Bl {m:Nat}{s t:PS}{u:Unit}{x:List Nat}(h:lD x s=some (u,t))(hm:65≤m):evFn lay0.tab m 121 [.box 0 0,.p (.str x)] s.A.hp=some (.tup [],t.A.hp):=by
 obtain⟨hz,rfl⟩:=qg h;exact tF s x hz hm
theorem Bk {m:Nat}{s t:PS}{u:Unit}{x:List Nat}(h:hD x s=some (u,t))(hm:65≤m):evFn lay0.tab m 124 [.box 0 0,.p (.str x)] s.A.hp=some (.tup [],t.A.hp):=by
 obtain⟨hz,rfl⟩:=rg h;exact ug s x hz hm
theorem vQ {s t:PS}{k:Int}(h:pKind s=some (k,t)):s.sz=true∧ck kindL 1 s=(k,t):=bz h
theorem NY {m:Nat}{s t:PS}{k:Int}(h:pKind s=some (k,t))(hm:80≤m):evFn lay0.tab m 102 [.box 0 0] s.A.hp=some (.p (.int .i64 k),t.A.hp):=by
 obtain⟨hz,h⟩:=vQ h;have:=JK (m:=m) s hz hm;rw[h]at this;exact this
theorem y3 {m:Nat}{s t:PS}{k:Int}(h:pKind s=some (k,t))(hm:80≤m):evFn lay0.tab m 102 [.box 0 0] s.B.hp=some (.p (.int .i64 k),t.B.hp):=by
 obtain⟨hz,h⟩:=vQ h;have:=JL (m:=m) s hz hm;rw[h]at this;exact this
theorem F7 {c m q:Nat}{ex:PM Int}(hx:RunF c 135 ex)(hc:c+4≤m)(hm1:130≤m)(hq:q+3≤m)(hq':q<1000000):dV m 133 (qk ex q):=by
 obtain⟨m,rfl,-⟩:=aO (show 0+1≤m by omega);intro s t a h;apply Og m s.A;unfold za;obtain⟨_,s1,h1,h⟩:=af h;obtain⟨n,s2,h2,h⟩:=af h;obtain⟨_,s3,h3,h⟩:=af h;obtain⟨key,s4,h4,h⟩:=af h;obtain⟨_,s5,h5,h⟩:=af h;obtain⟨_,s6,h6,h⟩:=af h;obtain⟨nm,s7,h7,h⟩:=af h;obtain⟨l,s8,h8,h⟩:=af h;have hargs:=kw (m:=m) hx (by omega) (by omega) (by omega) hq' h8;simp only[aa (qI h1 (by omega:63≤m)),ba,aM,bP,aa (tD h2 (by omega:63≤m)),aE,ox,aa (Bl h3 (by omega:65≤m)),aa (hx m (by omega) _ _ _ h4),aP,aa (Bk h5 (by omega:65≤m)),aa (qI h6 (by omega:63≤m)),aa (tD h7 (by omega:63≤m)),aa hargs,se];have hl:=(jj h).2.1;simp only[List.length_cons]at hl;cases l with
 |nil=>
  have ha:=ku (m:=m) h (by omega);have ha':evFn lay0.tab m 123 [(.box 0 0),(.p (.agg [(.int .i64 7),(.str n),(.int .i64 0),(.int .i64 0),(.str nm),(.slice 1 []),(.slice 1 []),(.slice 1 [Da.int .i64 key])]))] s8.A.hp=some (.p (.int .i64 a),t.A.hp):=ha;simp only[List.map_nil,show(!List.isEmpty [Da.int .i64 key]&&List.isEmpty ([]:LD))=true from rfl,aV,aa ha',aE,aP,bP]
 |cons k0 l=>
  have ha:=Kw (m:=m) h (by omega);have ha':evFn lay0.tab m 123 [(.box 0 0),(.agg [(.p (.int .i64 7)),(.p (.str n)),(.p (.int .i64 0)),(.p (.int .i64 0)),(.p (.str nm)),(.p (.slice 1 [])),(.p (.slice 1 [])),(.arr 1 0 (List.length ([Da.int .i64 key]++(k0::l).map iE)) 1)])] (Eb.mk s8.A.tk s8.A.ps s8.A.en s8.A.aT s8.A.er s8.A.ne s8.A.tt s8.A.nd ([Da.int .i64 key]++(k0::l).map iE) s8.A.no).hp=some (.p (.int .i64 a),(t.D ((key::k0::l).map iE)).hp):=ha;have hb:eG (List.length [Da.int .i64 key]+List.length ((k0::l).map iE)) 8=true:=dy (by rw[lμ];simp only[List.length_cons,List.length_nil];simp only[List.length_cons]at hl;omega) (by decide);simp only[show(!List.isEmpty [Da.int .i64 key]&&List.isEmpty ((k0::l).map iE))=false from rfl,aU,hb,aV,aa ha',aE,aP,UR];rfl
theorem JP {c m q:Nat}{ex:PM Int}(hx:RunF c 135 ex)(hc:c+5≤m)(hm1:131≤m)(hq:q+4≤m)(hq':q<1000000):dV m 131 (oQ ex q):=by
 obtain⟨m,rfl,-⟩:=aO (show 0+1≤m by omega);intro s t a h;apply Kd m s.A;unfold uB;obtain⟨_,s1,h1,h⟩:=af h;obtain⟨hz,h⟩:=aS h;simp only[aa (qI h1 (by omega:63≤m)),ba,aM,bP,aa (f3 (m:=m) s1 _ hz (by omega)),aE,aw];rcases h with⟨hk,h⟩|⟨hk,h⟩
 ·simp only[hk,aV,aa (F7 (m:=m) hx (by omega) (by omega) (by omega) hq' _ _ _ h),aE,aP,bP]
 ·simp only[hk,aU,aa (hx m (by omega) _ _ _ h),aE,aP,bP]
theorem Dm {m:Nat}{ex:PM Int}(hx:dV m 135 ex){s t:PS}{l l':List Int}(h:snoc ex l s=some (l',t))(Y:eJ→R)(i6 i7:Int):
  Q_yoperands_1 (bu lay0.tab m) s.A (l.map iE).length (l.map iE) Y i6 i7=Y ((l'.map iE).length,i6,ao .i64 (i7+1),t.A,l'.map iE):=by
 obtain⟨x,h1,hl,rfl⟩:=cF h;unfold Q_yoperands_1;simp only[aa (hx _ _ _ h1),aE,aP,bP,Nat.beq_refl,show ∀x:Nat,Nat.beq x x=true from fun x=>Nat.beq_refl x,aV];rw[dy (by rw[lμ];show l.length+1<_;omega) (by decide),aV];rw[List.map_append];rfl
theorem Dl {m:Nat}{ex:PM Int}(hx:dV m 135 ex)(hm:100≤m)(k0:Nat×Int×Int×Bool×bi×LD→R):∀(k:Nat) (s t:PS) (l l':List Int),mI ex k l s=some (l',t)→l.length+k<1000→∀Q,k<Q→
  L_yoperands_1 (bu lay0.tab m) m k0 Q ((l.map iE).length,((l.length+k:Nat):Int),(l.length:Int),s.A,l.map iE)=k0 ((l'.map iE).length,((l.length+k:Nat):Int),((l.length+k:Nat):Int),false,t.A,l'.map iE)
 |0,s,t,l,l',h,hn,Q,hQ=>by
  obtain⟨Q,rfl⟩:∃j,Q=j+1:=⟨Q - 1,by omega⟩
  obtain⟨rfl,rfl⟩:=aH h;rw[ma];simp only[eK,Nat.add_zero,Fi,aU]
 |k+1,s,t,l,l',h,hn,Q,hQ=>by
  obtain⟨Q,rfl⟩:∃j,Q=j+1:=⟨Q - 1,by omega⟩
  rw[ma];unfold mI at h;simp only[eK,DO (show(l.length:Int)<((l.length+(k+1):Nat):Int) by omega),aV];have next:∀(s1 s2:PS) (l1:List Int),snoc ex l s1=some (l1,s2)→mI ex k l1 s2=some (l',t)→L_yoperands_1 (bu lay0.tab m) m k0 Q ((l1.map iE).length,((l.length+(k+1):Nat):Int),ao .i64 ((l.length:Int)+1),s2.A,l1.map iE)=k0 ((l'.map iE).length,((l.length+(k+1):Nat):Int),((l.length+(k+1):Nat):Int),false,t.A,l'.map iE):=by
   intro s1 s2 l1 h1 h2;obtain⟨x,-,-,rfl⟩:=cF h1;have:=Dl hx hm k0 k s2 t (l++[x]) l' h2 (by rw[lπ,List.length_singleton];omega) Q (by omega);rw[lπ,List.length_singleton,show l.length+1+k=l.length+(k+1) by omega]at this;rw[wS (show l.length<lI by unfold lI;omega)];exact this
  cases hl:l.isEmpty with
  |true=>
   rw[hl,cond_true]at h;obtain⟨l1,s1,h1,h⟩:=af h;have:l.length=0:=by rw[List.isEmpty_iff.1 hl];rfl
   rw[Bh (show ¬(0:Int)<(l.length:Int) by omega),aU,Dm hx h1];exact next _ _ _ h1 h
  |false=>
   rw[hl,cond_false]at h;obtain⟨_,s0,h0,h⟩:=af h;obtain⟨l1,s1,h1,h⟩:=af h;have:0<l.length:=by cases l with|nil=>cases hl|cons=>simp
   rw[DO (show(0:Int)<(l.length:Int) by omega),aV];simp only[aa (qI h0 (by omega:63≤m)),ba,aM,bP];rw[Dm hx h1];exact next _ _ _ h1 h
theorem Bs {c m:Nat}{ex:PM Int}(hx:RunF c 135 ex)(hc:c+1≤m)(hm1:131≤m)(n:Nat)(hn:n<100){s t:PS}{l:List Int}(h:AS ex n s=some (l,t)):
  evFn lay0.tab m 136 [.box 0 0,.p (.int .i64 (n:Int))] s.A.hp=some (.p (.slice 1 (l.map iE)),t.A.hp):=by
 obtain⟨m,rfl,-⟩:=aO (show 0+1≤m by omega);apply BN m s.A n;unfold lP;obtain⟨_,s1,h1,h⟩:=af h;obtain⟨l1,s2,h2,h⟩:=af h;obtain⟨_,s3,h3,h⟩:=af h;obtain⟨rfl,rfl⟩:=aH h;simp only[aa (Bl h1 (by omega:65≤m)),ba,aM,bP];have lp:=fun k0=>Dl (hx m (by omega)) (by omega) k0 n s1 s2 [] l1 h2 (by simp;omega) m (by omega)
 simp only[List.map_nil,List.length_nil,Nat.zero_add,show((0:Nat):Int)=0 from rfl]at lp;rw[lp];simp only[aa (Bk h3 (by omega:65≤m)),ba,aM,bP,List.drop_zero,List.take_length]
theorem iv {m:Nat}{x:No}{s t:PS}{a:Int}(h:mK x s=some (a,t))(hm:70≤m):evFn lay0.tab m 132 [.box 0 0,.p x.e] s.A.hp=some (.p (.int .i64 a),t.A.hp):=by
 replace hm:=aO hm;obtain⟨m,rfl,hm⟩:=hm;apply J1 m s.A x.r;unfold um;obtain⟨_,s1,h1,h⟩:=af h;have ha:evFn lay0.tab m 123 [.box 0 0,.p x.r.e] s1.A.hp=some (.p (.int .i64 a),t.A.hp):=ku h (by omega);simp only[aa (qI h1 (by omega:63≤m)),ba,aM,bP,aa ha,aE,aP]
def Rq (c:Nat)(p:PM Int):Prop:=∀m,c≤m→∀(s t:PS) (a:Int),p s=some (a,t)→evFn lay0.tab m 107 [.box 0 0,.p (.bool false)] s.A.hp=some (.p (.int .i64 a),t.A.hp)
theorem uh {c d m:Nat}{ex bl:PM Int}(hx:RunF c 135 ex)(hb:Rq d bl)(hc:c+1≤m)(hd:d+1≤m)(hm1:131≤m)(op:Int){s t:PS}{a:Int}(h:wu op ex bl s=some (a,t)):
  evFn lay0.tab m 134 [.box 0 0,.p (.int .i64 op)] s.A.hp=some (.p (.int .i64 a),t.A.hp):=by
 obtain⟨m,rfl,-⟩:=aO (show 0+1≤m by omega);apply uS m s.A op;unfold iz;obtain⟨_,s1,h1,h⟩:=af h;obtain⟨x,s2,h2,h⟩:=af h;obtain⟨_,s3,h3,h⟩:=af h;obtain⟨b,s4,h4,h⟩:=af h;simp only[aa (Bl h1 (by omega:65≤m)),ba,aM,bP,aa (hx m (by omega) _ _ _ h2),aE,aP,aa (Bk h3 (by omega:65≤m)),aa (hb m (by omega) _ _ _ h4)];have q2:∀(a:Int) (t:PS) (l:LD),f4 (.p (.int .i64 a)) (t.D l).hp=some (.p (.int .i64 a),t.A.hp):=fun a t l=>rfl
 have q1:∀(s4:PS),dX ⟨op,[],vz,[x,b]⟩ s4=some (a,t)→em (bu lay0.tab m) op x b s4.A=some (.p (.int .i64 a),t.A.hp):=by
  intro s4 h;have ha:=Kw (m:=m) h (by omega);have ha':evFn lay0.tab m 123 [(.box 0 0),(.agg [(.p (.int .i64 op)),(.p (.str [])),(.p (.int .i64 0)),(.p (.int .i64 0)),(.p (.str [])),(.p (.slice 1 [])),(.p (.slice 1 [])),(.arr 1 0 (List.length ([Da.int .i64 x]++[Da.int .i64 b])) 1)])] (Eb.mk s4.A.tk s4.A.ps s4.A.en s4.A.aT s4.A.er s4.A.ne s4.A.tt s4.A.nd ([Da.int .i64 x]++[Da.int .i64 b]) s4.A.no).hp=some (.p (.int .i64 a),(t.D (([x,b]:List Int).map iE)).hp):=ha;unfold em;rw[aa ha',q2]
 cases ho:eqI op 11 with
 |false=>
  rw[ho,cond_false]at h;rw[aU];exact q1 s4 h
 |true=>
  rw[ho,cond_true]at h;obtain⟨hz,h⟩:=aS h;rw[aV];simp only[aa (cJ (m:=m) s4 _ hz (by omega)),aE,aw,bP];rcases h with⟨hk,h⟩|⟨hk,h⟩
  ·obtain⟨_,s5,h5,h⟩:=af h;obtain⟨-,rfl⟩:=bF h5;obtain⟨e,s6,h6,h⟩:=af h;have ha:=Kw (m:=m) h (by omega);have ha':evFn lay0.tab m 123 [(.box 0 0),(.agg [(.p (.int .i64 op)),(.p (.str [])),(.p (.int .i64 0)),(.p (.int .i64 0)),(.p (.str [])),(.p (.slice 1 [])),(.p (.slice 1 [])),(.arr 1 0 (List.length ([Da.int .i64 x]++[Da.int .i64 b]++[Da.int .i64 e])) 1)])] (Eb.mk s6.A.tk s6.A.ps s6.A.en s6.A.aT s6.A.er s6.A.ne s6.A.tt s6.A.nd ([Da.int .i64 x]++[Da.int .i64 b]++[Da.int .i64 e]) s6.A.no).hp=some (.p (.int .i64 a),(t.D (([x,b,e]:List Int).map iE)).hp):=ha;simp only[hk,aV,cond_true,aa (hb m (by omega) _ _ _ h6),aE,aP,bP,aa ha',q2]
  ·rw[hk,aU];exact q1 s4 h
theorem oX {c d m q:Nat}{ex bl:PM Int}(hx:RunF c 135 ex)(hb:Rq d bl)(hc:c+6≤m)(hd:d+2≤m)(hm1:140≤m)(hq:q+5≤m)(hq':q<1000000):dV m 122 (mN ex bl q):=by
 obtain⟨m,rfl,-⟩:=aO (show 0+1≤m by omega);intro s t a h;apply zB m s.A;unfold kH;unfold mN at h;have hz:=(aS h).1;have hp:=iw (m:=m) s 0 (by decide) hz (by omega);simp only[show((0:Nat):Int)=0 from rfl]at hp;have hac:=fun x=>cJ (m:=m) s x hz (by omega)
 have hq1:∀(a:Int) (t:PS),bs (.p (.int .i64 a)) t.A.hp=some (.p (.int .i64 a),t.A.hp):=fun a t=>rfl
 have hcn:=fun op (s:PS) (h:wu op ex bl s=some (a,t))=>uh (m:=m) hx hb (by omega) (by omega) (by omega) op h
 have hcall:=fun(s t:PS) (a:Int) (h:qk ex q s=some (a,t))=>F7 (m:=m) hx (by omega) (by omega) (by omega) hq' s t a h
 have hval:=fun(s t:PS) (a:Int) (h:oQ ex q s=some (a,t))=>JP (m:=m) hx (by omega) (by omega) (by omega) hq' s t a h
 simp only[aa (hac _),aE,aw,bP];cases c1:s.is [108,101,116]with
 |true=>
  have h:=fF h c1;obtain⟨_,s1,h1,h⟩:=af h;obtain⟨-,rfl⟩:=bF h1;obtain⟨n,s2,h2,h⟩:=af h;obtain⟨_,s3,h3,h⟩:=af h;obtain⟨k,s4,h4,h⟩:=af h;obtain⟨x,s5,h5,h⟩:=af h;have ha:evFn lay0.tab m 132 [(.box 0 0),(.p (.agg [(.int .i64 8),(.str n),(.int .i64 k),(.int .i64 0),(.str []),(.slice 1 []),(.slice 1 []),(.slice 1 [Da.int .i64 x])]))] s5.A.hp=some (.p (.int .i64 a),t.A.hp):=iv h (by omega);simp only[aV,cond_true,aa (tD h2 (by omega:63≤m)),aE,ox,bP,aa (qI h3 (by omega:63≤m)),ba,aM,aa (NY h4 (by omega:80≤m)),aP,aa (hval _ _ _ h5),aa ha,hq1]
 |false=>
 have h:=fE h c1;simp only[aU,cond_false,aa hp,aE,xA,bP,show(s.peek 0).r.Kind=(s.peek 0).k from rfl];cases c2:eqI (s.peek 0).k 1 with
 |true=>
  have h:=fF h c2;obtain⟨n,s2,h2,h⟩:=af h;obtain⟨x,s5,h5,h⟩:=af h;have ha:evFn lay0.tab m 132 [(.box 0 0),(.p (.agg [(.int .i64 9),(.str n),(.int .i64 0),(.int .i64 0),(.str []),(.slice 1 []),(.slice 1 []),(.slice 1 [Da.int .i64 x])]))] s5.A.hp=some (.p (.int .i64 a),t.A.hp):=iv h (by omega);simp only[aV,aa (tD h2 (by omega:63≤m)),aE,ox,bP,aP,aa (hval _ _ _ h5),aa ha,hq1]
 |false=>
 have h:=fE h c2;simp only[aU,aa (f3 (m:=m) s _ hz (by omega)),aE,aw,bP];cases c3:s.is [99,97,108,108]with
 |true=>
  have h:=fF h c3;obtain⟨x,s5,h5,h⟩:=af h;have ha:evFn lay0.tab m 132 [(.box 0 0),(.p (.agg [(.int .i64 10),(.str []),(.int .i64 0),(.int .i64 0),(.str []),(.slice 1 []),(.slice 1 []),(.slice 1 [Da.int .i64 x])]))] s5.A.hp=some (.p (.int .i64 a),t.A.hp):=iv h (by omega);simp only[aV,aa (hcall _ _ _ h5),aE,bP,aP,aa ha,hq1]
 |false=>
 have h:=fE h c3;simp only[aU,aa (hac _),aE,aw,bP];cases c4:s.is [105,102]with
 |true=>
  have h:=fF h c4;obtain⟨_,s1,h1,h⟩:=af h;obtain⟨-,rfl⟩:=bF h1;simp only[aV,cond_true,aa (hcn 11 _ h),hq1]
 |false=>
 have h:=fE h c4;simp only[aU,cond_false,aa (hac _),aE,aw,bP];cases c5:s.is [119,104,105,108,101]with
 |true=>
  have h:=fF h c5;obtain⟨_,s1,h1,h⟩:=af h;obtain⟨-,rfl⟩:=bF h1;simp only[aV,cond_true,aa (hcn 12 _ h),hq1]
 |false=>
 have h:=fE h c5;simp only[aU,cond_false,aa (hac _),aE,aw,bP];cases c6:s.is [114,101,116,117,114,110]with
 |true=>
  have h:=fF h c6;obtain⟨_,s1,h1,h⟩:=af h;obtain⟨-,rfl⟩:=bF h1;obtain⟨hz1,h⟩:=aS h;simp only[aV,cond_true,aa (f3 (m:=m) s.up _ hz1 (by omega)),aE,aw,bP];rcases h with⟨hk,h⟩|⟨hk,h⟩
  ·have ha:evFn lay0.tab m 132 [(.box 0 0),(.p (.agg [(.int .i64 13),(.str []),(.int .i64 0),(.int .i64 0),(.str []),(.slice 1 []),(.slice 1 []),(.slice 1 [])]))] s.up.A.hp=some (.p (.int .i64 a),t.A.hp):=iv h (by omega);simp only[hk,Bool.not_true,aU,aa ha,hq1]
  ·obtain⟨x,s5,h5,h⟩:=af h;have ha:evFn lay0.tab m 132 [(.box 0 0),(.p (.agg [(.int .i64 13),(.str []),(.int .i64 0),(.int .i64 0),(.str []),(.slice 1 []),(.slice 1 []),(.slice 1 [Da.int .i64 x])]))] s5.A.hp=some (.p (.int .i64 a),t.A.hp):=iv h (by omega);simp only[hk,Bool.not_false,aV,aa (hx m (by omega) _ _ _ h5),aE,aP,bP,aa ha,hq1]
 |false=>
 have h:=fE h c6;simp only[aU,cond_false,aa (hac _),aE,aw,bP];cases c7:s.is [102,97,105,108]with
 |true=>
  have h:=fF h c7;obtain⟨_,s1,h1,h⟩:=af h;obtain⟨-,rfl⟩:=bF h1;have ha:evFn lay0.tab m 132 [(.box 0 0),(.p (.agg [(.int .i64 14),(.str []),(.int .i64 0),(.int .i64 0),(.str []),(.slice 1 []),(.slice 1 []),(.slice 1 [])]))] s.up.A.hp=some (.p (.int .i64 a),t.A.hp):=iv h (by omega);simp only[aV,cond_true,aa ha,hq1]
 |false=>
 have h:=fE h c7;simp only[aU,cond_false,aa (hac _),aE,aw,bP];have hops:∀(n:Nat) (op:Int),n<100→∀s1:PS,((AS ex n).bnd fun l=>mK ⟨op,[],vz,l⟩) s1=some (a,t)→∃(l:List Int) (s2:PS),evFn lay0.tab m 136 [.box 0 0,.p (.int .i64 (n:Int))] s1.A.hp=some (.p (.slice 1 (l.map iE)),s2.A.hp)∧evFn lay0.tab m 132 [(.box 0 0),(.p (.agg [(.int .i64 op),(.str []),(.int .i64 0),(.int .i64 0),(.str []),(.slice 1 []),(.slice 1 []),(.slice 1 (l.map iE))]))] s2.A.hp=some (.p (.int .i64 a),t.A.hp):=by
  intro n op hn s1 h;obtain⟨l,s2,h2,h⟩:=af h;exact⟨l,s2,Bs hx (by omega) (by omega) n hn h2,iv h (by omega)⟩
 cases c8:s.is [101,109,105,116]with
 |true=>
  have h:=fF h c8;obtain⟨_,s1,h1,h⟩:=af h;obtain⟨-,rfl⟩:=bF h1;obtain⟨l,s2,ho,ha⟩:=hops 2 15 (by decide) _ h;simp only[show((2:Nat):Int)=2 from rfl]at ho;simp only[aV,cond_true,aa ho,aE,se,bP,aa ha,hq1]
 |false=>
 have h:=fE h c8;simp only[aU,cond_false,aa (hac _),aE,aw,bP];cases c9:s.is [114,101,109,105,110,100]with
 |true=>
  have h:=fF h c9;obtain⟨_,s1,h1,h⟩:=af h;obtain⟨-,rfl⟩:=bF h1;obtain⟨l,s2,ho,ha⟩:=hops 3 16 (by decide) _ h;simp only[show((3:Nat):Int)=3 from rfl]at ho;simp only[aV,cond_true,aa ho,aE,se,bP,aa ha,hq1]
 |false=>
 have h:=fE h c9;simp only[aU,cond_false,aa (hac _),aE,aw,bP];cases c10:s.is [99,97,110,99,101,108]with
 |true=>
  have h:=fF h c10;obtain⟨_,s1,h1,h⟩:=af h;obtain⟨-,rfl⟩:=bF h1;obtain⟨l,s2,ho,ha⟩:=hops 1 17 (by decide) _ h;simp only[show((1:Nat):Int)=1 from rfl]at ho;simp only[aV,cond_true,aa ho,aE,se,bP,aa ha,hq1]
 |false=>
 have h:=fE h c10;obtain⟨_,s1,h1,h⟩:=af h;obtain⟨-,rfl⟩:=Cy h1;obtain⟨rfl,rfl⟩:=aH h;simp only[aU,cond_false,aa (fu (m:=m) s 13 (by omega)),ba,aM,bP]
end
end Go.Ab
end
