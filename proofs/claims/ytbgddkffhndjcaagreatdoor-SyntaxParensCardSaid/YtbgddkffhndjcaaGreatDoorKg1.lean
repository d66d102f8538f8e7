import Derived.Test.YtbgddkffhndjcaaGreatDoorKg0
import Derived.Test.YtbgddkffhndjcaaGreatDoorOg1
import Derived.Test.YtbgddkffhndjcaaGreatDoorOg2
import Derived.Test.YtbgddkffhndjcaaGreatDoorOg3
set_option linter.all false
section
namespace Go.Ab
open Go
set_option maxRecDepth 100000
noncomputable section
def PS.Pv (s:PS):vd:=⟨s.tk.map Tk.e,s.ps,s.en,s.aT,s.er,s.ne,s.tt,s.nd.map No.e⟩
theorem YM (c:vd)(K:vd→R):tV c.hp K=K c:=rfl
theorem Zy (c:Rx)(K:Rx→R):tR c.hp K=K c:=rfl
theorem Zz (c:Ry)(K:Ry→R):tS c.hp K=K c:=rfl
theorem ZB (c:RB)(K:RB→R):D5 c.hp K=K c:=rfl
theorem ZD (c:za)(K:za→R):D7 c.hp K=K c:=rfl
theorem YJ (c:j6)(K:j6→R):xb c.hp K=K c:=rfl
theorem YK (c:j7)(K:j7→R):xc c.hp K=K c:=rfl
def PS.KI (s:PS)(vk vn:Int)(vs:List Nat)(l:List Da):Rf:=⟨vk,vn,vs,l.length,l,s.tk.map Tk.e,s.ps,s.en,s.aT,s.er,s.ne,s.tt,s.nd.map No.e⟩
def PS.KJ (s:PS)(vk vn:Int)(vs:List Nat)(l:List Da):Rx:=⟨vk,vn,vs,l.length,s.tk.map Tk.e,s.ps,s.en,s.aT,s.er,s.ne,s.tt,s.nd.map No.e,l⟩
def PS.KL (s:PS)(vk vn:Int)(vs:List Nat)(l:List Da):Rg:=⟨vk,vn,vs,l.length,l,s.tk.map Tk.e,s.ps,s.en,s.aT,s.er,s.ne,s.tt,s.nd.map No.e⟩
def PS.KM (s:PS)(vk vn:Int)(vs:List Nat)(l:List Da):Ry:=⟨vk,vn,vs,l.length,s.tk.map Tk.e,s.ps,s.en,s.aT,s.er,s.ne,s.tt,s.nd.map No.e,l⟩
def PS.E (s:PS)(l:List Da):UY:=⟨l.length,l,s.tk.map Tk.e,s.ps,s.en,s.aT,s.er,s.ne,s.tt,s.nd.length,s.nd.map No.e⟩
def PS.F (s:PS)(l:List Da):RB:=⟨l.length,s.tk.map Tk.e,s.ps,s.en,s.aT,s.er,s.ne,s.tt,s.nd.length,l,s.nd.map No.e⟩
def PS.O (s:PS)(l:List Da):za:=⟨s.tk.map Tk.e,s.ps,s.en,s.aT,s.er,s.ne,s.tt,s.nd.length,l.length,s.nd.map No.e,l⟩
def PS.BI (s:PS)(vk vn:Int)(vs:List Nat)(l:List Da):j6:=⟨s.tk.map Tk.e,s.ps,s.en,s.aT,s.er,s.ne,s.tt,s.nd.map No.e,vk,vn,vs,l.length,l⟩
def PS.BL (s:PS)(vk vn:Int)(vs:List Nat)(l:List Da):j7:=⟨s.tk.map Tk.e,s.ps,s.en,s.aT,s.er,s.ne,s.tt,s.nd.map No.e,vk,vn,vs,l.length,l⟩
theorem cg {α:Type}{p:PM α}{l l':List α}{s t:PS}(h:snoc p l s=some (l',t)):∃x,p s=some (x,t)∧l.length<1000000∧l++[x]=l':=by
 obtain⟨x,s1,h1,h⟩:=ae h;cases hb:decide (l.length<1000000)with
 |false=>rw[hb]at h;cases h
 |true=>
  rw[hb]at h;rw[lβ]at hb;injection h with h;injection h with h2 h3;subst h3;exact⟨x,h1,hb,h2⟩
theorem F0 {m:Nat}(s:PS)(hz:s.sz=true)(hm:65≤m):evFn lay0.tab m 116 [.box 0 0] s.Pv.hp=some (.p (.bool (GQ s)),s.Pv.hp):=by
 replace hm:=aO hm;obtain⟨m,rfl,hm⟩:=hm;apply Gz m s.Pv;unfold oV GQ;have h1:evFn lay0.tab m 43 [.box 0 0,.p (.str [45])] (bD.mk s.Pv.tk s.Pv.ps s.Pv.en s.Pv.aT s.Pv.er s.Pv.ne s.Pv.tt s.Pv.nd).hp=some (.p (.bool (s.is [45])),s.B.hp):=lb (m:=m) s _ hz (by omega);have hp:=iW (m:=m) s 0 (by decide) hz (by omega);simp only[show((0:Nat):Int)=0 from rfl]at hp;simp only[aa h1,aJ,aq,fD,aa hp,xa,show(s.peek 0).r.Kind=(s.peek 0).k from rfl];cases s.is [45]<;>rfl
theorem F2 {m:Nat}(s:PS)(hz:s.sz=true)(hm:65≤m):evFn lay0.tab m 119 [.box 0 0] s.Pv.hp=some (.p (.bool (GT s)),s.Pv.hp):=by
 replace hm:=aO hm;obtain⟨m,rfl,hm⟩:=hm;apply GB m s.Pv;unfold oX GT;have hp:=iW (m:=m) s 0 (by decide) hz (by omega);simp only[show((0:Nat):Int)=0 from rfl]at hp;have hp':evFn lay0.tab m 73 [.box 0 0,.p (.int .i64 0)] (bD.mk s.Pv.tk s.Pv.ps s.Pv.en s.Pv.aT s.Pv.er s.Pv.ne s.Pv.tt s.Pv.nd).hp=some (.p (s.peek 0).e,s.B.hp):=hp;simp only[aa hp',aJ,fD,xa,show(s.peek 0).r.Kind=(s.peek 0).k from rfl];rfl
theorem F1 {m:Nat}{s t:PS}{l l':List Int}(vk vn:Int)(vs:List Nat)(h:snoc pInt l s=some (l',t))(hm:67≤m):
  evFn lay0.tab m 117 [.box 0 0,.box 2 0] (s.KI vk vn vs (l.map iE)).hp=some (.tup [],(t.KJ vk vn vs (l'.map iE)).hp):=by
 replace hm:=aO hm;obtain⟨m,rfl,hm⟩:=hm;obtain⟨x,h1,hl,rfl⟩:=cg h;apply GA m (s.KI vk vn vs (l.map iE));unfold oW;have h2:evFn lay0.tab m 118 [.box 0 0] (bD.mk (s.KI vk vn vs (l.map iE)).tk (s.KI vk vn vs (l.map iE)).ps (s.KI vk vn vs (l.map iE)).en (s.KI vk vn vs (l.map iE)).aT (s.KI vk vn vs (l.map iE)).er (s.KI vk vn vs (l.map iE)).ne (s.KI vk vn vs (l.map iE)).tt (s.KI vk vn vs (l.map iE)).nd).hp=some (.p (.int .i64 x),t.B.hp):=tK (m:=m) h1 (by omega);simp only[aa h2,aJ,aS,fD];have e1:Nat.beq (s.KI vk vn vs (l.map iE)).vi (List.length (s.KI vk vn vs (l.map iE)).il)=true:=Nat.beq_refl _;rw[e1,aR,dK (show List.length (s.KI vk vn vs (l.map iE)).il+List.length [Da.int .i64 x]<1000000001 by show(l.map iE).length+1<_;rw[lθ];omega) (by decide),aR];have e2:(s.KI vk vn vs (l.map iE)).il++[Da.int .i64 x]=(l++[x]).map iE:=by rw[List.map_append];rfl
 rw[e2];rfl
theorem FO {k:Int}{s t:PS}{x:Tk}(h:mo k s=some (x,t)):s.sz=true∧s.take k=(x,t):=bb h
theorem F3 {m:Nat}{s t:PS}{l l':List (List Nat)}(vk vn:Int)(vs:List Nat)(h:snoc ((mo 4).bnd fun t=> .ret t.s) l s=some (l',t))(hm:67≤m):
  evFn lay0.tab m 120 [.box 0 0,.box 2 0] (s.KL vk vn vs (l.map .str)).hp=some (.tup [],(t.KM vk vn vs (l'.map .str)).hp):=by
 replace hm:=aO hm;obtain⟨m,rfl,hm⟩:=hm;obtain⟨x,h1,hl,rfl⟩:=cg h;obtain⟨k,s1,h4,h3⟩:=ae h1;obtain⟨hz,h4⟩:=FO h4;obtain⟨rfl,rfl⟩:=aF h3;apply GC m (s.KL vk vn vs (l.map .str));unfold oY;have h2:evFn lay0.tab m 101 [.box 0 0,.p (.int .i64 4)] (bD.mk (s.KL vk vn vs (l.map .str)).tk (s.KL vk vn vs (l.map .str)).ps (s.KL vk vn vs (l.map .str)).en (s.KL vk vn vs (l.map .str)).aT (s.KL vk vn vs (l.map .str)).er (s.KL vk vn vs (l.map .str)).ne (s.KL vk vn vs (l.map .str)).tt (s.KL vk vn vs (l.map .str)).nd).hp=some (.p (s.take 4).1.e,(s.take 4).2.B.hp):=qm (m:=m) s 4 (by decide) hz (by omega);rw[h4]at h2;simp only[aa h2,aJ,xa,fD];have e1:Nat.beq (s.KL vk vn vs (l.map .str)).vl (List.length (s.KL vk vn vs (l.map .str)).il)=true:=Nat.beq_refl _;rw[e1,aR,dK (show List.length (s.KL vk vn vs (l.map .str)).il+List.length [Da.str k.r.Text]<1000000001 by show(l.map Da.str).length+1<_;rw[lθ];omega) (by decide),aR];have e2:(s.KL vk vn vs (l.map .str)).il++[Da.str k.r.Text]=(l++[k.s]).map .str:=by rw[List.map_append];rfl
 rw[e2];rfl
theorem yW {m:Nat}{ex:PM Int}(hx:eo m 135 ex){s t:PS}{l l':List Int}(h:snoc ex l s=some (l',t)):
  evFn lay0.tab (m+1) 154 [.box 0 0,.box 2 0] (s.E (l.map iE)).hp=some (.tup [],(t.F (l'.map iE)).hp):=by
 obtain⟨x,h1,hl,rfl⟩:=cg h;apply zb m (s.E (l.map iE));unfold jY;have h2:evFn lay0.tab m 135 [.box 0 0] (bm.mk (s.E (l.map iE)).tk (s.E (l.map iE)).ps (s.E (l.map iE)).en (s.E (l.map iE)).aT (s.E (l.map iE)).er (s.E (l.map iE)).ne (s.E (l.map iE)).tt (s.E (l.map iE)).nd (s.E (l.map iE)).no).hp=some (.p (.int .i64 x),t.A.hp):=hx _ _ _ h1;simp only[aa h2,aJ,aS,b6];have e1:Nat.beq (s.E (l.map iE)).ou (List.length (s.E (l.map iE)).ol)=true:=Nat.beq_refl _;rw[e1,aR,dK (show List.length (s.E (l.map iE)).ol+List.length [Da.int .i64 x]<1000000001 by show(l.map iE).length+1<_;rw[lθ];omega) (by decide),aR];have e2:(s.E (l.map iE)).ol++[Da.int .i64 x]=(l++[x]).map iE:=by rw[List.map_append];rfl
 rw[e2];rfl
theorem Pm {m:Nat}{ex:PM Int}(hx:∀k,m=k+1→eo k 135 ex)(hm:100≤m){s1 s2:PS}{l l1:List Int}(h2:snoc ex l s1=some (l1,s2))(hz2:s2.sz=true)(n:Nat)(k0:(Int×Int×Bool×bm×Nat×LD)→R)(Y:ew→R):
  Q_yelementsO_1 (bv lay0.tab m) (l.map iE).length (l.map iE) s1.A k0 16 n Y=iL (!s2.is [44]) (k0 (16,(n:Int),!s2.is [44],(bif s2.is [44]then s2.up else s2).A,(l1.map iE).length,l1.map iE)) (Y (16,aj .i64 ((n:Int)+1),(bif s2.is [44]then s2.up else s2).A,(l1.map iE).length,l1.map iE)):=by
 unfold Q_yelementsO_1;obtain⟨k,rfl,-⟩:=aO (show 0+1≤m by omega);have hel:evFn lay0.tab (k+1) 154 [.box 0 0,.box 2 0] (UY.mk (l.map iE).length (l.map iE) s1.A.tk s1.A.ps s1.A.en s1.A.aT s1.A.er s1.A.ne s1.A.tt s1.A.nd s1.A.no).hp=some (.tup [],(s2.F (l1.map iE)).hp):=yW (hx k rfl) h2;generalize hm':k+1=m at*
 simp only[aa hel,bc,aM,ZB];have hac:evFn lay0.tab m 100 [.box 0 0,.p (.str [44])] (bm.mk (s2.F (l1.map iE)).tk (s2.F (l1.map iE)).ps (s2.F (l1.map iE)).en (s2.F (l1.map iE)).aT (s2.F (l1.map iE)).er (s2.F (l1.map iE)).ne (s2.F (l1.map iE)).tt (s2.F (l1.map iE)).nd (s2.F (l1.map iE)).no).hp=some (.p (.bool (s2.is [44])),(bif s2.is [44]then s2.up else s2).A.hp):=cY (m:=m) s2 _ hz2 (by omega);simp only[aa hac,aJ,aq,b6];rfl
theorem Eh {m:Nat}{ex:PM Int}(hx:∀k,m=k+1→eo k 135 ex)(hm:100≤m):∀(q':Nat) (s t:PS) (n:Nat) (l l':List Int),j9 PS.begins (snoc ex) 16 q' n l s=some (l',t)→n+q'<1000000→∀Q,q'≤Q→
  L_yelementsO_1 (bv lay0.tab m) m (fun(i56,i57,b58,u59,n60,l61)=>some ((.tup []),({u59 with ou:=n60,ol:=l61}:za).hp)) (fun(i62,i63,b64,u65,n66,l67)=>some ((.tup []),({u65 with ou:=n66,ol:=l67}:za).hp)) Q (16,(n:Int),s.A,(l.map iE).length,l.map iE)=some (.tup [],(t.O (l'.map iE)).hp)
 |0,s,t,n,l,l',h,hn,Q,hQ=>by cases h
 |q'+1,s,t,n,l,l',h,hn,Q,hQ=>by
  obtain⟨Q,rfl⟩:∃j,Q=j+1:=⟨Q - 1,by omega⟩
  rw[uH];unfold j9 at h;simp only[fY,aa (fS (m:=m) s (by omega)),aJ,aq,b6];rcases bx h with⟨hk,h⟩|⟨hk,h⟩
  ·obtain⟨_,s1,h1,h⟩:=ae h;obtain⟨hz,h1⟩:=bb h1;injection h1 with _ h1;obtain⟨l1,s2,h2,h⟩:=ae h;obtain⟨hz2,h⟩:=aH h;have hb:=JQ (m:=m) s hz (by omega);have ij:∀(X:R),X=Q_yelementsO_1 (bv lay0.tab m) (l.map iE).length (l.map iE) s1.A (fun(i56,i57,b58,u59,n60,l61)=>some ((.tup []),({u59 with ou:=n60,ol:=l61}:za).hp)) 16 n (L_yelementsO_1 (bv lay0.tab m) m (fun(i56,i57,b58,u59,n60,l61)=>some ((.tup []),({u59 with ou:=n60,ol:=l61}:za).hp)) (fun(i62,i63,b64,u65,n66,l67)=>some ((.tup []),({u65 with ou:=n66,ol:=l67}:za).hp)) Q)→X=some (.tup [],(t.O (l'.map iE)).hp):=by
    intro X hX;rw[hX,Pm hx hm h2 hz2];rcases h with⟨hc,h⟩|⟨hc,h⟩
    ·obtain⟨_,s3,h3,h⟩:=ae h;obtain⟨-,rfl⟩:=bJ h3;rw[hc,Bool.not_true,aQ,cond_true,wS (show n<fA by unfold fA;omega)];exact Eh hx hm q' s2.up t (n+1) l1 l' h (by omega) Q (by omega)
    ·obtain⟨rfl,rfl⟩:=aF h;rw[hc];rfl
   apply ij;rw[hk,aR];simp only[aa hb,aJ,aq,b6];have f13:evFn lay0.tab m 44 [.box 0 0,.p (.int .i64 13)] s.A.hp=some (.tup [],(s.fail 13).A.hp):=fR (m:=m) s 13 (by omega);have f5:evFn lay0.tab m 44 [.box 0 0,.p (.int .i64 5)] s.A.hp=some (.tup [],(s.fail 5).A.hp):=fR (m:=m) s 5 (by omega);simp only[aa f13,aa f5,bc,aM,b6,show eqI (n:Int) 16=Nat.beq n 16 from rfl];rw[←h1];cases PS.begins s with
   |false=>rfl
   |true=>cases Nat.beq n 16<;>rfl
  ·obtain⟨rfl,rfl⟩:=aF h;rw[hk];rfl
def Q_elI (cc:ag)(vk vn:Int)(vs:LN)(n12:Nat)(l13:LD)(u:bD)(k0:Int×Int×Bool×bD×Int×Int×LN×Nat×LD→R)(i6 i7:Int)(Y:dV→R):R:=
 cc 117 [(.box 0 0),(.box 2 0)] (Rf.mk vk vn vs n12 l13 u.tk u.ps u.en u.aT u.er u.ne u.tt u.nd).hp fun d28 o29=>aZ d28 fun r30=>aB r30<|tR o29 fun u31=>
  cc 100 [(.box 0 0),(.p (.str [44]))] (bD.mk u31.tk u31.ps u31.en u31.aT u31.er u31.ne u31.tt u31.nd).hp fun d32 o33=>dP d32 fun x34=>aI x34 fun b35=>aN o33 fun u36=>
  iL (!b35) (k0 (i6,i7,!b35,u36,u31.vk,u31.vn,u31.vs,u31.vi,u31.il)) (Y (i6,aj .i64 (i7+1),u36,u31.vk,u31.vn,u31.vs,u31.vi,u31.il))
theorem Pj {m:Nat}(hm:100≤m){s1 s2:PS}{l l1:List Int}(h2:snoc pInt l s1=some (l1,s2))(hz2:s2.sz=true)(vk vn:Int)(vs:List Nat)(n:Nat)(k0:(Int×Int×Bool×bD×Int×Int×LN×Nat×LD)→R)(Y:dV→R):
  Q_elI (bv lay0.tab m) vk vn vs (l.map iE).length (l.map iE) s1.B k0 16 n Y=iL (!s2.is [44]) (k0 (16,(n:Int),!s2.is [44],(bif s2.is [44]then s2.up else s2).B,vk,vn,vs,(l1.map iE).length,l1.map iE)) (Y (16,aj .i64 ((n:Int)+1),(bif s2.is [44]then s2.up else s2).B,vk,vn,vs,(l1.map iE).length,l1.map iE)):=by
 unfold Q_elI;have hel:evFn lay0.tab m 117 [.box 0 0,.box 2 0] (Rf.mk vk vn vs (l.map iE).length (l.map iE) s1.B.tk s1.B.ps s1.B.en s1.B.aT s1.B.er s1.B.ne s1.B.tt s1.B.nd).hp=some (.tup [],(s2.KJ vk vn vs (l1.map iE)).hp):=F1 vk vn vs h2 (by omega);simp only[aa hel,bc,aM,Zy];have hac:evFn lay0.tab m 100 [.box 0 0,.p (.str [44])] (bD.mk (s2.KJ vk vn vs (l1.map iE)).tk (s2.KJ vk vn vs (l1.map iE)).ps (s2.KJ vk vn vs (l1.map iE)).en (s2.KJ vk vn vs (l1.map iE)).aT (s2.KJ vk vn vs (l1.map iE)).er (s2.KJ vk vn vs (l1.map iE)).ne (s2.KJ vk vn vs (l1.map iE)).tt (s2.KJ vk vn vs (l1.map iE)).nd).hp=some (.p (.bool (s2.is [44])),(bif s2.is [44]then s2.up else s2).B.hp):=eq (m:=m) s2 _ hz2 (by omega);simp only[aa hac,aJ,aq,fD];rfl
theorem Ee {m:Nat}(hm:100≤m)(vk vn:Int)(vs:List Nat):∀(q':Nat) (s t:PS) (n:Nat) (l l':List Int),j9 GQ (snoc pInt) 16 q' n l s=some (l',t)→n+q'<1000000→∀Q,q'≤Q→
  L_yelementsIB_1 (bv lay0.tab m) m (fun(i59,i60,b61,u62,i63,i64,s65,n66,l67)=>some ((.tup []),({u62 with vk:=i63,vn:=i64,vs:=s65,vi:=n66,il:=l67}:j6).hp)) (fun(i59,i60,b61,u62,i63,i64,s65,n66,l67)=>some ((.tup []),({u62 with vk:=i63,vn:=i64,vs:=s65,vi:=n66,il:=l67}:j6).hp)) Q (16,(n:Int),s.B,vk,vn,vs,(l.map iE).length,l.map iE)=some (.tup [],(t.BI vk vn vs (l'.map iE)).hp)
 |0,s,t,n,l,l',h,hn,Q,hQ=>by cases h
 |q'+1,s,t,n,l,l',h,hn,Q,hQ=>by
  obtain⟨Q,rfl⟩:∃j,Q=j+1:=⟨Q - 1,by omega⟩
  rw[sx];unfold j9 at h;simp only[fm,aa (mA (m:=m) s (by omega)),aJ,aq,fD];rcases bx h with⟨hk,h⟩|⟨hk,h⟩
  ·obtain⟨_,s1,h1,h⟩:=ae h;obtain⟨hz,h1⟩:=bb h1;injection h1 with _ h1;obtain⟨l1,s2,h2,h⟩:=ae h;obtain⟨hz2,h⟩:=aH h;have hb:=(show evFn lay0.tab m 116 [.box 0 0] (vd.mk s.B.tk s.B.ps s.B.en s.B.aT s.B.er s.B.ne s.B.tt s.B.nd).hp=some (.p (.bool (GQ s)),s.Pv.hp)from F0 (m:=m) s hz (by omega))
   have ij:∀(X:R),X=Q_elI (bv lay0.tab m) vk vn vs (l.map iE).length (l.map iE) s1.B (fun(i59,i60,b61,u62,i63,i64,s65,n66,l67)=>some ((.tup []),({u62 with vk:=i63,vn:=i64,vs:=s65,vi:=n66,il:=l67}:j6).hp)) 16 n (L_yelementsIB_1 (bv lay0.tab m) m (fun(i59,i60,b61,u62,i63,i64,s65,n66,l67)=>some ((.tup []),({u62 with vk:=i63,vn:=i64,vs:=s65,vi:=n66,il:=l67}:j6).hp)) (fun(i59,i60,b61,u62,i63,i64,s65,n66,l67)=>some ((.tup []),({u62 with vk:=i63,vn:=i64,vs:=s65,vi:=n66,il:=l67}:j6).hp)) Q)→X=some (.tup [],(t.BI vk vn vs (l'.map iE)).hp):=by
    intro X hX;rw[hX,Pj hm h2 hz2];rcases h with⟨hc,h⟩|⟨hc,h⟩
    ·obtain⟨_,s3,h3,h⟩:=ae h;obtain⟨-,rfl⟩:=bJ h3;rw[hc,Bool.not_true,aQ,cond_true,wS (show n<fA by unfold fA;omega)];exact Ee hm vk vn vs q' s2.up t (n+1) l1 l' h (by omega) Q (by omega)
    ·obtain⟨rfl,rfl⟩:=aF h;rw[hc];rfl
   apply ij;rw[hk,aR];simp only[aa hb,aJ,aq,YM];have f13:evFn lay0.tab m 44 [.box 0 0,.p (.int .i64 13)] (bD.mk s.Pv.tk s.Pv.ps s.Pv.en s.Pv.aT s.Pv.er s.Pv.ne s.Pv.tt s.Pv.nd).hp=some (.tup [],(s.fail 13).B.hp):=cQ (m:=m) s 13 (by omega);have f5:evFn lay0.tab m 44 [.box 0 0,.p (.int .i64 5)] (bD.mk s.Pv.tk s.Pv.ps s.Pv.en s.Pv.aT s.Pv.er s.Pv.ne s.Pv.tt s.Pv.nd).hp=some (.tup [],(s.fail 5).B.hp):=cQ (m:=m) s 5 (by omega);simp only[aa f13,aa f5,bc,aM,fD,show eqI (n:Int) 16=Nat.beq n 16 from rfl];rw[←h1];cases GQ s with
   |false=>rfl
   |true=>cases Nat.beq n 16<;>rfl
  ·obtain⟨rfl,rfl⟩:=aF h;rw[hk];rfl
def Q_elL (cc:ag)(vk vn:Int)(vs:LN)(n12:Nat)(l13:LD)(u:bD)(k0:Int×Int×Bool×bD×Int×Int×LN×Nat×LD→R)(i6 i7:Int)(Y:dW→R):R:=
 cc 120 [(.box 0 0),(.box 2 0)] (Rg.mk vk vn vs n12 l13 u.tk u.ps u.en u.aT u.er u.ne u.tt u.nd).hp fun d28 o29=>aZ d28 fun r30=>aB r30<|tS o29 fun u31=>
  cc 100 [(.box 0 0),(.p (.str [44]))] (bD.mk u31.tk u31.ps u31.en u31.aT u31.er u31.ne u31.tt u31.nd).hp fun d32 o33=>dP d32 fun x34=>aI x34 fun b35=>aN o33 fun u36=>
  iL (!b35) (k0 (i6,i7,!b35,u36,u31.vk,u31.vn,u31.vs,u31.vl,u31.il)) (Y (i6,aj .i64 (i7+1),u36,u31.vk,u31.vn,u31.vs,u31.vl,u31.il))
theorem Pk {m:Nat}(hm:100≤m){s1 s2:PS}{l l1:List (List Nat)}(h2:snoc ((mo 4).bnd fun t=> .ret t.s) l s1=some (l1,s2))(hz2:s2.sz=true)(vk vn:Int)(vs:List Nat)(n:Nat)(k0:(Int×Int×Bool×bD×Int×Int×LN×Nat×LD)→R)(Y:dW→R):
  Q_elL (bv lay0.tab m) vk vn vs (l.map Da.str).length (l.map Da.str) s1.B k0 16 n Y=iL (!s2.is [44]) (k0 (16,(n:Int),!s2.is [44],(bif s2.is [44]then s2.up else s2).B,vk,vn,vs,(l1.map Da.str).length,l1.map Da.str)) (Y (16,aj .i64 ((n:Int)+1),(bif s2.is [44]then s2.up else s2).B,vk,vn,vs,(l1.map Da.str).length,l1.map Da.str)):=by
 unfold Q_elL;have hel:evFn lay0.tab m 120 [.box 0 0,.box 2 0] (Rg.mk vk vn vs (l.map Da.str).length (l.map Da.str) s1.B.tk s1.B.ps s1.B.en s1.B.aT s1.B.er s1.B.ne s1.B.tt s1.B.nd).hp=some (.tup [],(s2.KM vk vn vs (l1.map Da.str)).hp):=F3 vk vn vs h2 (by omega);simp only[aa hel,bc,aM,Zz];have hac:evFn lay0.tab m 100 [.box 0 0,.p (.str [44])] (bD.mk (s2.KM vk vn vs (l1.map Da.str)).tk (s2.KM vk vn vs (l1.map Da.str)).ps (s2.KM vk vn vs (l1.map Da.str)).en (s2.KM vk vn vs (l1.map Da.str)).aT (s2.KM vk vn vs (l1.map Da.str)).er (s2.KM vk vn vs (l1.map Da.str)).ne (s2.KM vk vn vs (l1.map Da.str)).tt (s2.KM vk vn vs (l1.map Da.str)).nd).hp=some (.p (.bool (s2.is [44])),(bif s2.is [44]then s2.up else s2).B.hp):=eq (m:=m) s2 _ hz2 (by omega);simp only[aa hac,aJ,aq,fD];rfl
theorem Ef {m:Nat}(hm:100≤m)(vk vn:Int)(vs:List Nat):∀(q':Nat) (s t:PS) (n:Nat) (l l':List (List Nat)),j9 GT (snoc ((mo 4).bnd fun t=> .ret t.s)) 16 q' n l s=some (l',t)→n+q'<1000000→∀Q,q'≤Q→
  L_yelementsLB_1 (bv lay0.tab m) m (fun(i59,i60,b61,u62,i63,i64,s65,n66,l67)=>some ((.tup []),({u62 with vk:=i63,vn:=i64,vs:=s65,vl:=n66,il:=l67}:j7).hp)) (fun(i59,i60,b61,u62,i63,i64,s65,n66,l67)=>some ((.tup []),({u62 with vk:=i63,vn:=i64,vs:=s65,vl:=n66,il:=l67}:j7).hp)) Q (16,(n:Int),s.B,vk,vn,vs,(l.map Da.str).length,l.map Da.str)=some (.tup [],(t.BL vk vn vs (l'.map Da.str)).hp)
 |0,s,t,n,l,l',h,hn,Q,hQ=>by cases h
 |q'+1,s,t,n,l,l',h,hn,Q,hQ=>by
  obtain⟨Q,rfl⟩:∃j,Q=j+1:=⟨Q - 1,by omega⟩
  rw[sA];unfold j9 at h;simp only[fo,aa (mA (m:=m) s (by omega)),aJ,aq,fD];rcases bx h with⟨hk,h⟩|⟨hk,h⟩
  ·obtain⟨_,s1,h1,h⟩:=ae h;obtain⟨hz,h1⟩:=bb h1;injection h1 with _ h1;obtain⟨l1,s2,h2,h⟩:=ae h;obtain⟨hz2,h⟩:=aH h;have hb:=(show evFn lay0.tab m 119 [.box 0 0] (vd.mk s.B.tk s.B.ps s.B.en s.B.aT s.B.er s.B.ne s.B.tt s.B.nd).hp=some (.p (.bool (GT s)),s.Pv.hp)from F2 (m:=m) s hz (by omega))
   have ij:∀(X:R),X=Q_elL (bv lay0.tab m) vk vn vs (l.map Da.str).length (l.map Da.str) s1.B (fun(i59,i60,b61,u62,i63,i64,s65,n66,l67)=>some ((.tup []),({u62 with vk:=i63,vn:=i64,vs:=s65,vl:=n66,il:=l67}:j7).hp)) 16 n (L_yelementsLB_1 (bv lay0.tab m) m (fun(i59,i60,b61,u62,i63,i64,s65,n66,l67)=>some ((.tup []),({u62 with vk:=i63,vn:=i64,vs:=s65,vl:=n66,il:=l67}:j7).hp)) (fun(i59,i60,b61,u62,i63,i64,s65,n66,l67)=>some ((.tup []),({u62 with vk:=i63,vn:=i64,vs:=s65,vl:=n66,il:=l67}:j7).hp)) Q)→X=some (.tup [],(t.BL vk vn vs (l'.map Da.str)).hp):=by
    intro X hX;rw[hX,Pk hm h2 hz2];rcases h with⟨hc,h⟩|⟨hc,h⟩
    ·obtain⟨_,s3,h3,h⟩:=ae h;obtain⟨-,rfl⟩:=bJ h3;rw[hc,Bool.not_true,aQ,cond_true,wS (show n<fA by unfold fA;omega)];exact Ef hm vk vn vs q' s2.up t (n+1) l1 l' h (by omega) Q (by omega)
    ·obtain⟨rfl,rfl⟩:=aF h;rw[hc];rfl
   apply ij;rw[hk,aR];simp only[aa hb,aJ,aq,YM];have f13:evFn lay0.tab m 44 [.box 0 0,.p (.int .i64 13)] (bD.mk s.Pv.tk s.Pv.ps s.Pv.en s.Pv.aT s.Pv.er s.Pv.ne s.Pv.tt s.Pv.nd).hp=some (.tup [],(s.fail 13).B.hp):=cQ (m:=m) s 13 (by omega);have f5:evFn lay0.tab m 44 [.box 0 0,.p (.int .i64 5)] (bD.mk s.Pv.tk s.Pv.ps s.Pv.en s.Pv.aT s.Pv.er s.Pv.ne s.Pv.tt s.Pv.nd).hp=some (.tup [],(s.fail 5).B.hp):=cQ (m:=m) s 5 (by omega);simp only[aa f13,aa f5,bc,aM,fD,show eqI (n:Int) 16=Nat.beq n 16 from rfl];rw[←h1];cases GT s with
   |false=>rfl
   |true=>cases Nat.beq n 16<;>rfl
  ·obtain⟨rfl,rfl⟩:=aF h;rw[hk];rfl
end
end Go.Ab
end
section
namespace Go.Ab
open Go
set_option maxRecDepth 100000
noncomputable section
def RunF (c g:Nat)(p:PM Int):Prop:=∀m,c≤m→eo m g p
theorem RunF.le {c d g:Nat}{p:PM Int}(h:RunF c g p)(hd:c≤d):RunF d g p:=fun m hm=>h m (by omega)
theorem f4 {α:Type}{c:PS→Bool}{p q:PM α}{s:PS}{r:α×PS}(h:cnd c p q s=some r)(hc:c s=true):p s=some r:=by
 rcases(aH h).2 with⟨-,h⟩|⟨h1,-⟩
 ·exact h
 ·rw[hc]at h1;cases h1
theorem f3 {α:Type}{c:PS→Bool}{p q:PM α}{s:PS}{r:α×PS}(h:cnd c p q s=some r)(hc:c s=false):q s=some r:=by
 rcases(aH h).2 with⟨h1,-⟩|⟨-,h⟩
 ·rw[hc]at h1;cases h1
 ·exact h
theorem A9 {c m q:Nat}{ex:PM Int}(hx:RunF c 135 ex)(hc:c+2≤m)(h1:110≤m)(hq:q+1≤m)(hq':q<1000000){s t:PS}{l l':List Int}(h:B2 PS.begins (snoc ex) 16 q l s=some (l',t)):
  evFn lay0.tab m 104 [.box 0 0,.p (.int .i64 16),.fn 1000153 [.box 0 0],.fn 154 [.box 1 0,.box 2 0]] (s.O (l.map iE)).hp=some (.tup [],(t.O (l'.map iE)).hp):=by
 obtain⟨m,rfl,-⟩:=aO (show 0+1≤m by omega);apply BE m (s.O (l.map iE)) 16;unfold lk;obtain⟨hz,h⟩:=aH h;have e1:evFn lay0.tab m 43 [.box 0 0,.p (.str [41])] (bm.mk (s.O (l.map iE)).tk (s.O (l.map iE)).ps (s.O (l.map iE)).en (s.O (l.map iE)).aT (s.O (l.map iE)).er (s.O (l.map iE)).ne (s.O (l.map iE)).tt (s.O (l.map iE)).nd (s.O (l.map iE)).no).hp=some (.p (.bool (s.is [41])),s.A.hp):=gw (m:=m) s _ hz (by omega);simp only[aa e1,aJ,aq,b6];rcases h with⟨hk,h⟩|⟨hk,h⟩
 ·obtain⟨rfl,rfl⟩:=aF h;rw[hk];rfl
 ·rw[hk,aQ];exact Eh (fun k hk=>hx k (by omega)) (by omega) q s t 0 l l' h (by omega) m (by omega)
theorem la {c m q:Nat}{ex:PM Int}(hx:RunF c 135 ex)(hc:c+3≤m)(h1:120≤m)(hq:q+2≤m)(hq':q<1000000){s t:PS}{l:List Int}(h:oL ex q s=some (l,t)):
  evFn lay0.tab m 145 [.box 0 0] s.A.hp=some (.p (.slice 1 (l.map iE)),t.A.hp):=by
 obtain⟨m,rfl,-⟩:=aO (show 0+1≤m by omega);apply BA m s.A;unfold lg;obtain⟨_,s1,h2,h⟩:=ae h;obtain⟨hz,rfl⟩:=rt h2;obtain⟨l1,s2,h3,h⟩:=ae h;obtain⟨_,s3,h4,h⟩:=ae h;obtain⟨hz2,rfl⟩:=sJ h4;obtain⟨rfl,rfl⟩:=aF h;have e1:evFn lay0.tab m 104 [.box 0 0,.p (.int .i64 16),.fn 1000153 [.box 0 0],.fn 154 [.box 1 0,.box 2 0]] (za.mk (s.open [40]).A.tk (s.open [40]).A.ps (s.open [40]).A.en (s.open [40]).A.aT (s.open [40]).A.er (s.open [40]).A.ne (s.open [40]).A.tt (s.open [40]).A.nd 0 (s.open [40]).A.no []).hp=some (.tup [],(s2.O (l1.map iE)).hp):=A9 hx (by omega) (by omega) (by omega) hq' h3;have e2:evFn lay0.tab m 124 [.box 0 0,.p (.str [41])] (bm.mk (s2.O (l1.map iE)).tk (s2.O (l1.map iE)).ps (s2.O (l1.map iE)).en (s2.O (l1.map iE)).aT (s2.O (l1.map iE)).er (s2.O (l1.map iE)).ne (s2.O (l1.map iE)).tt (s2.O (l1.map iE)).nd (s2.O (l1.map iE)).no).hp=some (.tup [],(s2.close [41]).A.hp):=vL (m:=m) s2 _ hz2 (by omega);simp only[aa (uY (m:=m) s _ hz (by omega)),bc,aM,b6,aa e1,ZD,aa e2];have e3:List.take (s2.O (l1.map iE)).ou (List.drop 0 (s2.O (l1.map iE)).ol)=l1.map iE:=by
  show List.take (l1.map iE).length (List.drop 0 (l1.map iE))=_;rw[List.drop_zero,List.take_length]
 rw[e3]
theorem w7 {c:PM Va}{s t:PS}{v:Va}(h:iK c s=some (v,t)):s.sz=true∧(eqI (s.peek 0).k 4=true∧(⟨3,0,(s.peek 0).s,[],[]⟩,s.up)=(v,t)∨eqI (s.peek 0).k 4=false∧s.is [116,114,117,101]=true∧(⟨2,1,[],[],[]⟩,s.up)=(v,t)∨
  eqI (s.peek 0).k 4=false∧s.is [116,114,117,101]=false∧s.is [102,97,108,115,101]=true∧(⟨2,0,[],[],[]⟩,s.up)=(v,t)∨eqI (s.peek 0).k 4=false∧s.is [116,114,117,101]=false∧s.is [102,97,108,115,101]=false∧c s=some (v,t)):=by
 obtain⟨hz,h⟩:=aH h;refine⟨hz,?_⟩;rcases h with⟨h1,h⟩|⟨h1,h⟩
 ·exact .inl ⟨h1,(bb h).2⟩
 ·rcases(aH h).2 with⟨h2,h⟩|⟨h2,h⟩
  ·exact .inr (.inl ⟨h1,h2,(bb h).2⟩)
  ·rcases(aH h).2 with⟨h3,h⟩|⟨h3,h⟩
   ·exact .inr (.inr (.inl ⟨h1,h2,h3,(bb h).2⟩))
   ·exact .inr (.inr (.inr ⟨h1,h2,h3,h⟩))
theorem XD {s:PS}(hz:s.sz=true){k:Int}(hk:k≠0)(h:eqI (s.peek 0).k k=true):aj .i64 ((s.ps:Int)+1)=((s.ps+1:Nat):Int):=by
 rw[cF,lβ]at h;exact Mf hz (jS hz 0 (by rw[h];exact hk))
theorem Yw {s:PS}(hz:s.sz=true){k:Int}(hk:k≠0)(h:eqI (s.peek 0).k k=true):({s.A with ps:=aj .i64 (s.A.ps+1)}:bm)=s.up.A:=by
 show(⟨_,aj .i64 ((s.ps:Int)+1),_,_,_,_,_,_,_⟩:bm)=_;rw[XD hz hk h];rfl
theorem ZN {s:PS}(hz:s.sz=true){k:Int}(hk:k≠0)(h:eqI (s.peek 0).k k=true):({s.B with ps:=aj .i64 (s.B.ps+1)}:bD)=s.up.B:=by
 show(⟨_,aj .i64 ((s.ps:Int)+1),_,_,_,_,_,_⟩:bD)=_;rw[XD hz hk h];rfl
theorem A6 {m:Nat}{s t:PS}{v:Va}(h:iK (fun _=>none) s=some (v,t))(hm:70≤m):evFn lay0.tab m 103 [.box 0 0] s.A.hp=some (.p v.e,t.A.hp):=by
 replace hm:=aO hm;obtain⟨m,rfl,hm⟩:=hm;apply BB m s.A;unfold lh;obtain⟨hz,h⟩:=w7 h;have hp:=iV (m:=m) s 0 (by decide) hz (by omega);simp only[show((0:Nat):Int)=0 from rfl]at hp;simp only[aa hp,aJ,xa,b6,show(s.peek 0).r.Kind=(s.peek 0).k from rfl];rcases h with⟨h1,h⟩|⟨h1,h2,h⟩|⟨h1,h2,h3,h⟩|⟨-,-,-,h⟩
 ·injection h with h4 h5;subst h4 h5;rw[h1,aR,Yw hz (by decide) h1];rfl
 ·injection h with h4 h5;subst h4 h5;rw[h1,aQ];simp only[aa (cY (m:=m) s _ hz (by omega)),aJ,aq,b6];rw[h2,aR];rfl
 ·injection h with h4 h5;subst h4 h5;rw[h1,aQ];simp only[aa (cY (m:=m) s _ hz (by omega)),aJ,aq,b6];rw[h2,aQ,cond_false];simp only[aa (cY (m:=m) s _ hz (by omega)),aJ,aq,b6];rw[h3,aR];rfl
 ·cases h
theorem rC {s t:PS}{x:Tk}(h:pPeek s=some (x,t)):s.sz=true∧s.peek 0=x∧s=t:=by
 obtain⟨h1,h2⟩:=bb h;injection h2 with h2 h3;exact⟨h1,h2,h3⟩
theorem F8 {c m q:Nat}{ex:PM Int}(hx:RunF c 135 ex)(hc:c+4≤m)(hm1:130≤m)(hq:q+3≤m)(hq':q<1000000):eo m 162 (jv ex q):=by
 obtain⟨m,rfl,-⟩:=aO (show 0+1≤m by omega);intro s t a h;apply GI m s.A;unfold pf lJ lK;unfold jv at h;have hz:=(aH h).1;have hp0:=iV (m:=m) s 0 (by decide) hz (by omega);have hp1:=iV (m:=m) s 1 (by decide) hz (by omega);simp only[show((0:Nat):Int)=0 from rfl]at hp0;simp only[show((1:Nat):Int)=1 from rfl]at hp1;have hq5:∀(d:D) (o:List Ob),eM d o=dP d fun x=>au .i64 x fun i=>az o fun u=>some (.p (.int .i64 i),u.hp):=fun d o=>rfl
 have ha:=fun(x:No) (s:PS) (h:ea x s=some (a,t))=>k9 (m:=m) h (by omega)
 have his:=fun x=>gw (m:=m) s x hz (by omega)
 simp only[aa hp0,aa hp1,aJ,xa,b6,show ∀x:Tk,x.r.Kind=x.k from fun _=>rfl,show ∀x:Tk,x.r.Text=x.s from fun _=>rfl,show ∀x:Tk,x.r.Num=x.n from fun _=>rfl];have app:∀(K:Bool→R),iL (eqI (s.peek 1).k 5) (K (cp (s.peek 1).s [40])) (K false)=K s.appl:=by
  intro K;unfold PS.appl;cases eqI (s.peek 1).k 5<;>rfl
 refine(app fun b=>iL (eqI (s.peek 0).k 1) (iL (!b) ?X ?Y) (iL false ?X ?Y)).trans ?_;cases hk1:eqI (s.peek 0).k 1 with
 |true=>
  cases hap:s.appl with
  |false=>
   have h:=f4 h (by rw[hk1,hap];rfl);obtain⟨x,s1,h1,h⟩:=ae h;obtain⟨-,rfl,rfl⟩:=rC h1;obtain⟨_,s2,h2,h⟩:=ae h;obtain⟨-,rfl⟩:=bJ h2;have ha':evFn lay0.tab m 123 [(.box 0 0),(.p (.agg [(.int .i64 2),(.str (s.peek 0).s),(.int .i64 0),(.int .i64 0),(.str []),(.slice 1 []),(.slice 1 []),(.slice 1 [])]))] s.up.A.hp=some (.p (.int .i64 a),t.A.hp):=ha _ _ h;rw[Yw hz (by decide) hk1];simp only[aR,Bool.not_false,aa ha',hq5,aJ,aS,b6]
  |true=>
   have h:=f3 h (by rw[hk1,hap];rfl);have h:=f4 h (by rw[hk1];rfl);obtain⟨x,s1,h1,h⟩:=ae h;obtain⟨-,rfl,rfl⟩:=rC h1;obtain⟨_,s2,h2,h⟩:=ae h;obtain⟨-,rfl⟩:=bJ h2;obtain⟨l,s3,h3,h⟩:=ae h;have hr:=la (m:=m) hx (by omega) (by omega) (by omega) hq' h3;have ha':evFn lay0.tab m 123 [(.box 0 0),(.p (.agg [(.int .i64 6),(.str (s.peek 0).s),(.int .i64 0),(.int .i64 0),(.str []),(.slice 1 []),(.slice 1 []),(.slice 1 (l.map iE))]))] s3.A.hp=some (.p (.int .i64 a),t.A.hp):=ha _ _ h;simp only[aR,Bool.not_true,aQ];unfold eL;rw[Yw hz (by decide) hk1];simp only[aa hr,aJ,qM,b6,show ∀x:Tk,x.r.Text=x.s from fun _=>rfl,aa ha',hq5,aS]
 |false=>
  have h:=f3 h (by rw[hk1];rfl);simp only[aQ];have q4:(s.is [105,110,116,115]||s.is [115,116,114,105,110,103,115])=true→eL (bv lay0.tab m) s.A (s.peek 0).r=some (.p (.int .i64 a),t.A.hp):=by
   intro hi;have h:=f4 h (by rw[hk1,hi];rfl);obtain⟨x,s1,h1,h⟩:=ae h;obtain⟨-,rfl,rfl⟩:=rC h1;obtain⟨_,s2,h2,h⟩:=ae h;obtain⟨-,rfl⟩:=bJ h2;obtain⟨l,s3,h3,h⟩:=ae h;have hr:=la (m:=m) hx (by omega) (by omega) (by omega) hq' h3;have ha':evFn lay0.tab m 123 [(.box 0 0),(.p (.agg [(.int .i64 6),(.str (s.peek 0).s),(.int .i64 0),(.int .i64 0),(.str []),(.slice 1 []),(.slice 1 []),(.slice 1 (l.map iE))]))] s3.A.hp=some (.p (.int .i64 a),t.A.hp):=ha _ _ h;have hup:({s.A with ps:=aj .i64 (s.A.ps+1)}:bm)=s.up.A:=by
    have hps:s.ps<s.tk.length:=by
     rw[mμ]at hi;rcases hi with hi|hi
     ·exact dG hz hi
     ·exact dG hz hi
    show(⟨_,aj .i64 ((s.ps:Int)+1),_,_,_,_,_,_,_⟩:bm)=_;rw[Mf hz hps];rfl
   unfold eL;rw[hup];simp only[aa hr,aJ,qM,b6,show ∀x:Tk,x.r.Text=x.s from fun _=>rfl,aa ha',hq5,aS]
  have q1:(s.is [105,110,116,115]||s.is [115,116,114,105,110,103,115])=false→fU (s.peek 0).r (bv lay0.tab m) s.A=some (.p (.int .i64 a),t.A.hp):=by
   intro hi;have h:=f3 h (by rw[hk1,hi];rfl);unfold fU;simp only[show ∀x:Tk,x.r.Kind=x.k from fun _=>rfl,show ∀x:Tk,x.r.Num=x.n from fun _=>rfl];cases hk3:eqI (s.peek 0).k 3 with
   |true=>
    have h:=f4 h hk3;obtain⟨x,s1,h1,h⟩:=ae h;obtain⟨-,rfl,rfl⟩:=rC h1;obtain⟨_,s2,h2,h⟩:=ae h;obtain⟨-,rfl⟩:=bJ h2;have ha':evFn lay0.tab m 123 [(.box 0 0),(.p (.agg [(.int .i64 1),(.str []),(.int .i64 1),(.int .i64 (s.peek 0).n),(.str []),(.slice 1 []),(.slice 1 []),(.slice 1 [])]))] s.up.A.hp=some (.p (.int .i64 a),t.A.hp):=ha _ _ h;rw[Yw hz (by decide) hk3];simp only[aR,aa ha',hq5,aJ,aS,b6]
   |false=>
    have h:=f3 h hk3;simp only[aQ];have q3:(eqI (s.peek 0).k 4||(s.is [116,114,117,101]||s.is [102,97,108,115,101]))=true→fW (bv lay0.tab m) s.A=some (.p (.int .i64 a),t.A.hp):=by
     intro hj;have h:=f4 h hj;obtain⟨v,s1,h1,h⟩:=ae h;have hcst:=A6 (m:=m) h1 (by omega);have ha':evFn lay0.tab m 123 [(.box 0 0),(.p (.agg [(.int .i64 1),(.str []),(.int .i64 v.r.Kind),(.int .i64 v.r.N),(.str v.r.S),(.slice 1 v.r.I),(.slice 1 v.r.L),(.slice 1 [])]))] s1.A.hp=some (.p (.int .i64 a),t.A.hp):=ha _ _ h;unfold fW;simp only[aa hcst,aJ,Zp,b6,aa ha',hq5,aS]
    have q2:(eqI (s.peek 0).k 4||(s.is [116,114,117,101]||s.is [102,97,108,115,101]))=false→fV (bv lay0.tab m) s.A=some (.p (.int .i64 a),t.A.hp):=by
     intro hj;have h:=f3 h hj;unfold fV;simp only[aa (cY (m:=m) s _ hz (by omega)),aJ,aq,b6];cases hs:s.is [115,101,108,102]with
     |true=>
      have h:=f4 h hs;obtain⟨_,s2,h2,h⟩:=ae h;obtain⟨-,rfl⟩:=bJ h2;have ha':evFn lay0.tab m 123 [(.box 0 0),(.p (.agg [(.int .i64 3),(.str []),(.int .i64 0),(.int .i64 0),(.str []),(.slice 1 []),(.slice 1 []),(.slice 1 [])]))] s.up.A.hp=some (.p (.int .i64 a),t.A.hp):=ha _ _ h;simp only[aR,cond_true,aa ha',hq5,aJ,aS,b6]
     |false=>
      have h:=f3 h hs;simp only[aQ,cond_false,aa (his _),aJ,aq,b6];cases ho:s.is [40]with
      |true=>
       have h:=f4 h ho;obtain⟨_,s1,h1,h⟩:=ae h;obtain⟨-,rfl⟩:=rt h1;obtain⟨x,s2,h2,h⟩:=ae h;obtain⟨_,s3,h3,h⟩:=ae h;obtain⟨hz3,rfl⟩:=sJ h3;obtain⟨rfl,rfl⟩:=aF h;have hcl:=vL (m:=m) s2 [41] hz3 (by omega);simp only[aR,aa (uY (m:=m) s [40] hz (by omega)),bc,aM,b6,aa (fS (m:=m) (s.open [40]) (by omega)),aJ,aq];rcases bx h2 with⟨hk,h2⟩|⟨hk,h2⟩
       ·have he:=hx m (by omega) _ _ _ h2;simp only[hk,aR,aa he,aJ,aS,b6,aa hcl,bc,aM]
       ·obtain⟨rfl,rfl⟩:=aF h2;simp only[hk,aQ,aa hcl,bc,aM,b6]
      |false=>
       have h:=f3 h ho;obtain⟨_,s1,h1,h⟩:=ae h;obtain⟨-,rfl⟩:=Er h1;obtain⟨rfl,rfl⟩:=aF h;simp only[aQ,aa (fR (m:=m) s 13 (by omega)),bc,aM,b6]
    cases hk4:eqI (s.peek 0).k 4 with
    |true=>
     simp only[aR];exact q3 (by rw[hk4];rfl)
    |false=>
     simp only[aQ,aa (his _),aJ,aq,b6];cases ht:s.is [116,114,117,101]with
     |true=>
      simp only[aR];exact q3 (by rw[hk4,ht];rfl)
     |false=>
      simp only[aQ,aa (his _),aJ,aq,b6];cases hf:s.is [102,97,108,115,101]with
      |true=>exact q3 (by rw[hk4,ht,hf];rfl)
      |false=>exact q2 (by rw[hk4,ht,hf];rfl)
  simp only[aa (his _),aJ,aq,b6];cases hi:s.is [105,110,116,115]with
  |true=>
   simp only[aR];exact q4 (by rw[hi];rfl)
  |false=>
   simp only[aQ,aa (his _),aJ,aq,b6];cases hs:s.is [115,116,114,105,110,103,115]with
   |true=>exact q4 (by rw[hi,hs];rfl)
   |false=>exact q1 (by rw[hi,hs];rfl)
def Xs:Nat→Nat
 |0=>135
 |1=>147
 |2=>156
 |3=>159
 |4=>160
 |5=>161
 |_=>162
theorem Pz {q:Nat}(hq:q<1000000):∀f lvl,lvl≤6→RunF (q+200+6*f) (Xs lvl) (ku q f lvl)
 |0,lvl,hl=>fun m hm s t a h=>by simp only[ku]at h;cases h
 |f+1,lvl,hl=>by
  intro m hm;obtain⟨k,rfl⟩:∃k,m=k+2:=⟨m - 2,by omega⟩
  have ih:=fun l h=>Pz hq f l h
  match lvl,hl with
  |0,_=>exact Rp (ih 1 (by omega) k (by omega)) (by omega) (by omega)
  |1,_=>exact Ro (ih 2 (by omega) k (by omega)) (by omega) (by omega)
  |2,_=>exact UU (ih 3 (by omega) (k+1) (by omega)) (by omega)
  |3,_=>exact UV (ih 4 (by omega) k (by omega)) (by omega) (by omega)
  |4,_=>exact Rq (ih 5 (by omega) k (by omega)) (by omega) (by omega)
  |5,_=>exact JR (ih 5 (by omega) (k+1) (by omega)) (ih 6 (by omega) (k+1) (by omega)) (by omega)
  |6,_=>exact F8 (ih 0 (by omega)) (by omega) (by omega) (by omega) hq
end
end Go.Ab
end
section
namespace Go.Ab
open Go
set_option maxRecDepth 100000
noncomputable section
def lw (b:Nat)(l:List Int):Prop:=∀k∈l,0≤k∧k<(b:Int)
theorem xu (hs:List Int){i:Nat}(h:i<hs.length):(hs.map iE)[i]?=some (iE (hs.getD i 0)):=by
 simp[lδ h,lρ]
theorem Zv (x:No):x.r.Op=x.op:=rfl
theorem ZK (x:No):x.r.Kids=x.kids.map iE:=rfl
theorem Xx {m:Nat}(k0:Nat×Nat×Int×Int×Nat×Int×Int×LD×Int×Int×Bool×LD×LD×bG→R)(a c:Nat)(N:Nat)(i5 i4 i6:Int)(b:LD)(x:No)(hs:List Int)(hN:N=hs.length)(hk:lw N x.kids)(hl:x.kids.length<10000):∀(e q j:Nat) (mx:Int),j+e=x.kids.length→e<q→
  L_yheight_2 (bv lay0.tab m) m k0 q (a,N,i5,mx,c,i4,i6,x.kids.map iE,(x.kids.length:Int),(j:Int),b,hs.map iE,x.r)=k0 (a,N,i5,hK x.op hs (x.kids.drop j) j mx,c,i4,i6,x.kids.map iE,(x.kids.length:Int),(x.kids.length:Int),false,b,hs.map iE,x.r)
 |0,q+1,j,mx,h,_=>by
  obtain rfl:j=x.kids.length:=by omega
  rw[qz];simp only[hD,oA,aQ,List.drop_length,hK]
 |e+1,q+1,j,mx,h,hq=>by
  have hj:j<x.kids.length:=by omega
  obtain⟨g1,g2⟩:=hk x.kids[j] (mπ _);have g3:x.kids[j].toNat<hs.length:=by omega
  rw[qz,mε hj];simp only[hD,ue (show((j:Int)<(x.kids.length:Int)) by omega),aR,cR,ji,jf hj,dL,dI,oz g1,ue g2,Nat.zero_add,xu hs g3,Zv,wS (show j<fA by unfold fA;omega),hK];cases eqI x.op 11<;>cases eqI x.op 12<;>cases eqI (j:Int) 0<;>exact Xx k0 a c N i5 i4 i6 b x hs hN hk hl e q (j+1) _ (by omega) (by omega)
theorem Xw {m:Nat}(k0:Nat×Nat×Nat×Int×Int×Bool×LD×LD→R)(ns:List No)(hm:10001<m)(hk:∀x∈ns,lw ns.length x.kids)(hkl:∀x∈ns,x.kids.length<10000)(hl:ns.length<10000):∀(e q i:Nat) (hs:List Int),i+e=ns.length→e<q→hs.length=ns.length→
  L_yheight_1 (bv lay0.tab m) m k0 q (ns.length,ns.length,ns.length,(ns.length:Int),(i:Int),ns.map No.e,hs.map iE)=k0 (ns.length,ns.length,ns.length,(ns.length:Int),(ns.length:Int),false,ns.map No.e,(hN (ns.drop i) i hs).map iE)
 |0,q+1,i,hs,h,_,hhs=>by
  obtain rfl:i=ns.length:=by omega
  rw[qy];simp only[hC,oA,aQ,List.drop_length,hN]
 |e+1,q+1,i,hs,h,hq,hhs=>by
  have hi:i<ns.length:=by omega
  have hx:ns[i]∈ns:=mπ _;rw[qy,mε hi];have hat:(ns.map No.e)[i]?=some (No.e ns[i]):=by simp[lδ hi]
  simp only[hC,ue (show((i:Int)<(ns.length:Int)) by omega),aR,oz (show(0:Int)≤(i:Int) by omega),Nat.zero_add,Int.toNat_natCast,hat,dL,Zm,ZK,lθ];have g2:=fun k0'=>Xx (m:=m) k0' ns.length ns.length ns.length i ns.length i (ns.map No.e) ns[i] hs hhs.symm (hk _ hx) (hkl _ hx) ns[i].kids.length m 0 0 (by omega) (by have:=hkl _ hx;omega)
  simp only[show((0:Nat):Int)=0 from rfl,List.drop_zero]at g2;rw[g2];simp only[hN];have ij:L_yheight_1 (bv lay0.tab m) m k0 q (ns.length,ns.length,ns.length,(ns.length:Int),((i+1:Nat):Int),ns.map No.e,(hs.map iE).set i (iE (Tc ns[i].op (hK ns[i].op hs ns[i].kids 0 0))))=k0 (ns.length,ns.length,ns.length,(ns.length:Int),(ns.length:Int),false,ns.map No.e,(hN (ns.drop (i+1)) (i+1) (hs.set i (Tc ns[i].op (hK ns[i].op hs ns[i].kids 0 0)))).map iE):=by
   rw[←List.map_set];exact Xw k0 ns hm hk hkl hl e q (i+1) _ (by omega) (by omega) (by simp[hhs])
  rw[←ij];unfold dE dF;simp only[Zv,oz (show(0:Int)≤(i:Int) by omega),aR,ue (show((i:Int)<(ns.length:Int)) by omega),Nat.zero_add,Int.toNat_natCast,xu hs (show i<hs.length by omega),dL,dI,wS (show i<fA by unfold fA;omega)];unfold Tc;cases eqI ns[i].op 4<;>cases eqI ns[i].op 5<;>cases eqI ns[i].op 6<;>cases eqI ns[i].op 7<;>cases eqI ns[i].op 15<;>cases eqI ns[i].op 16<;>cases eqI ns[i].op 17<;>cases eqI ns[i].op 18<;>rfl
theorem PK:∀(l:List No) (i:Nat) (hs:List Int),(hN l i hs).length=hs.length
 |[],_,_=>rfl
 |x::r,i,hs=>by simp only[hN];rw[PK];simp
theorem JS {m:Nat}(ns:List No)(h0:0<ns.length)(hk:∀x∈ns,lw ns.length x.kids)(hkl:∀x∈ns,x.kids.length<10000)(hl:ns.length<10000)(hm:10005≤m):evFn lay0.tab m 55 [.arr 0 0 ns.length 8] [.arr (ns.map No.e)]=some (.p (.int .i64 (iH ns)),[.arr (ns.map No.e)]):=by
 replace hm:=aO hm;obtain⟨m,rfl,hm⟩:=hm;apply Ka m (ns.map No.e) ns.length;unfold sd iH;have hw:aj .i64 ((ns.length:Int) - 1)=((ns.length - 1:Nat):Int):=by rw[gm (by omega) (by omega)];omega
 have hr:List.replicate ns.length (Da.int .i64 0)=(List.replicate ns.length (0:Int)).map iE:=by simp[iE]
 have g:=fun k0=>Xw (m:=m) k0 ns (by omega) hk hkl hl ns.length m 0 (List.replicate ns.length 0) (by omega) (by omega) (by simp)
 simp only[show((0:Nat):Int)=0 from rfl,List.drop_zero]at g;simp only[lθ,Int.toNat_natCast,hr,g,mh,show(0:Int)≤(ns.length:Int) by omega,Int.le_refl,decide_true,Bool.true_and,show Nat.ble (ns.length*8) 281474976710656=true by rw[Nat.ble_eq];omega,show(ns.length:Int)≤9223372036854775807 by omega,aR,cF,show ¬((ns.length:Int)=0) by omega,decide_false,aQ,hw,show(0:Int)≤((ns.length - 1:Nat):Int) by omega,ue (show((ns.length - 1:Nat):Int)<(ns.length:Int) by omega),Nat.zero_add];rw[xu _ (by rw[PK];simp;omega)];rfl
end
end Go.Ab
end
section
namespace Go.Ab
open Go
set_option maxRecDepth 100000
noncomputable section
theorem NF {m:Nat}{s t:PS}{op:Int}{nm tx:List Nat}{l:List Int}{i:Int}(h:ea ⟨op,nm,⟨0,0,tx,[],[]⟩,l⟩ s=some (i,t))(hm:2≤m):
  evFn lay0.tab m 123 [.box 0 0,.agg [.p (.int .i64 op),.p (.str nm),.p (.int .i64 0),.p (.int .i64 0),.p (.str tx),.p (.slice 1 []),.p (.slice 1 []),.arr 1 0 (List.length (l.map iE)) 1]] (Gv.mk s.A.tk s.A.ps s.A.en s.A.aT s.A.er s.A.ne s.A.tt s.A.nd (l.map iE) s.A.no).hp=some (.p (.int .i64 i),(t.D (l.map iE)).hp):=by
 have:=Rn (m:=m) h hm;rw[←lθ (f:=iE)]at this;exact this
theorem EW {s t:PS}{x:List Nat}(h:pName s=some (x,t)):s.sz=true∧(s.take 1).1.s=x∧(s.take 1).2=t:=by
 obtain⟨k,s1,h1,h⟩:=ae h;obtain⟨hz,h1⟩:=FO h1;obtain⟨rfl,rfl⟩:=aF h;rw[h1];exact⟨hz,rfl,rfl⟩
theorem uW {m:Nat}{s t:PS}{x:List Nat}(h:pName s=some (x,t))(hm:63≤m):evFn lay0.tab m 75 [.box 0 0] s.A.hp=some (.p (.str x),t.A.hp):=by
 obtain⟨hz,rfl,rfl⟩:=EW h;exact MA s hz hm
theorem uX {m:Nat}{s t:PS}{x:List Nat}(h:pName s=some (x,t))(hm:63≤m):evFn lay0.tab m 75 [.box 0 0] s.B.hp=some (.p (.str x),t.B.hp):=by
 obtain⟨hz,rfl,rfl⟩:=EW h;exact MB s hz hm
theorem rX {m:Nat}{s t:PS}{u:Unit}{x:List Nat}(h:gi x s=some (u,t))(hm:63≤m):evFn lay0.tab m 74 [.box 0 0,.p (.str x)] s.A.hp=some (.tup [],t.A.hp):=by
 obtain⟨hz,rfl⟩:=IW h;exact oS s x hz hm
theorem fy {m:Nat}{s t:PS}{u:Unit}{x:List Nat}(h:gi x s=some (u,t))(hm:63≤m):evFn lay0.tab m 74 [.box 0 0,.p (.str x)] s.B.hp=some (.tup [],t.B.hp):=by
 obtain⟨hz,rfl⟩:=IW h;exact F4 s x hz hm
theorem Dk {m:Nat}{s t:PS}{u:Unit}{x:List Nat}(h:kL x s=some (u,t))(hm:65≤m):evFn lay0.tab m 121 [.box 0 0,.p (.str x)] s.A.hp=some (.tup [],t.A.hp):=by
 obtain⟨hz,rfl⟩:=rt h;exact uY s x hz hm
theorem Di {m:Nat}{s t:PS}{u:Unit}{x:List Nat}(h:gM x s=some (u,t))(hm:65≤m):evFn lay0.tab m 124 [.box 0 0,.p (.str x)] s.A.hp=some (.tup [],t.A.hp):=by
 obtain⟨hz,rfl⟩:=sJ h;exact vL s x hz hm
theorem xE {s t:PS}{k:Int}(h:pKind s=some (k,t)):s.sz=true∧eX kindL 1 s=(k,t):=bb h
theorem Rl {m:Nat}{s t:PS}{k:Int}(h:pKind s=some (k,t))(hm:80≤m):evFn lay0.tab m 102 [.box 0 0] s.A.hp=some (.p (.int .i64 k),t.A.hp):=by
 obtain⟨hz,h⟩:=xE h;have:=My (m:=m) s hz hm;rw[h]at this;exact this
theorem A5 {m:Nat}{s t:PS}{k:Int}(h:pKind s=some (k,t))(hm:80≤m):evFn lay0.tab m 102 [.box 0 0] s.B.hp=some (.p (.int .i64 k),t.B.hp):=by
 obtain⟨hz,h⟩:=xE h;have:=Mz (m:=m) s hz hm;rw[h]at this;exact this
theorem Ip {c m q:Nat}{ex:PM Int}(hx:RunF c 135 ex)(hc:c+4≤m)(hm1:130≤m)(hq:q+3≤m)(hq':q<1000000):eo m 133 (rA ex q):=by
 obtain⟨m,rfl,-⟩:=aO (show 0+1≤m by omega);intro s t a h;apply RE m s.A;unfold Bd;obtain⟨_,s1,h1,h⟩:=ae h;obtain⟨n,s2,h2,h⟩:=ae h;obtain⟨_,s3,h3,h⟩:=ae h;obtain⟨key,s4,h4,h⟩:=ae h;obtain⟨_,s5,h5,h⟩:=ae h;obtain⟨_,s6,h6,h⟩:=ae h;obtain⟨nm,s7,h7,h⟩:=ae h;obtain⟨l,s8,h8,h⟩:=ae h;have hargs:=la (m:=m) hx (by omega) (by omega) (by omega) hq' h8;simp only[aa (rX h1 (by omega:63≤m)),bc,aM,b6,aa (uW h2 (by omega:63≤m)),aJ,pJ,aa (Dk h3 (by omega:65≤m)),aa (hx m (by omega) _ _ _ h4),aS,aa (Di h5 (by omega:65≤m)),aa (rX h6 (by omega:63≤m)),aa (uW h7 (by omega:63≤m)),aa hargs,qM];have hl:=(jJ h).2.1;simp only[List.length_cons]at hl;cases l with
 |nil=>
  have ha:=k9 (m:=m) h (by omega);have ha':evFn lay0.tab m 123 [(.box 0 0),(.p (.agg [(.int .i64 7),(.str n),(.int .i64 0),(.int .i64 0),(.str nm),(.slice 1 []),(.slice 1 []),(.slice 1 [Da.int .i64 key])]))] s8.A.hp=some (.p (.int .i64 a),t.A.hp):=ha;simp only[List.map_nil,show(!List.isEmpty [Da.int .i64 key]&&List.isEmpty ([]:LD))=true from rfl,aR,aa ha',aJ,aS,b6]
 |cons k0 l=>
  have ha:=NF (m:=m) h (by omega);have ha':evFn lay0.tab m 123 [(.box 0 0),(.agg [(.p (.int .i64 7)),(.p (.str n)),(.p (.int .i64 0)),(.p (.int .i64 0)),(.p (.str nm)),(.p (.slice 1 [])),(.p (.slice 1 [])),(.arr 1 0 (List.length ([Da.int .i64 key]++(k0::l).map iE)) 1)])] (Gv.mk s8.A.tk s8.A.ps s8.A.en s8.A.aT s8.A.er s8.A.ne s8.A.tt s8.A.nd ([Da.int .i64 key]++(k0::l).map iE) s8.A.no).hp=some (.p (.int .i64 a),(t.D ((key::k0::l).map iE)).hp):=ha;have hb:eW (List.length [Da.int .i64 key]+List.length ((k0::l).map iE)) 8=true:=dK (by rw[lθ];simp only[List.length_cons,List.length_nil];simp only[List.length_cons]at hl;omega) (by decide);simp only[show(!List.isEmpty [Da.int .i64 key]&&List.isEmpty ((k0::l).map iE))=false from rfl,aQ,hb,aR,aa ha',aJ,aS,YL];rfl
theorem MF {c m q:Nat}{ex:PM Int}(hx:RunF c 135 ex)(hc:c+5≤m)(hm1:131≤m)(hq:q+4≤m)(hq':q<1000000):eo m 131 (tz ex q):=by
 obtain⟨m,rfl,-⟩:=aO (show 0+1≤m by omega);intro s t a h;apply Ni m s.A;unfold wn;obtain⟨_,s1,h1,h⟩:=ae h;obtain⟨hz,h⟩:=aH h;simp only[aa (rX h1 (by omega:63≤m)),bc,aM,b6,aa (gw (m:=m) s1 _ hz (by omega)),aJ,aq];rcases h with⟨hk,h⟩|⟨hk,h⟩
 ·simp only[hk,aR,aa (Ip (m:=m) hx (by omega) (by omega) (by omega) hq' _ _ _ h),aJ,aS,b6]
 ·simp only[hk,aQ,aa (hx m (by omega) _ _ _ h),aJ,aS,b6]
theorem Fl {m:Nat}{ex:PM Int}(hx:eo m 135 ex){s t:PS}{l l':List Int}(h:snoc ex l s=some (l',t))(Y:fc→R)(i6 i7:Int):
  Q_yoperands_1 (bv lay0.tab m) s.A (l.map iE).length (l.map iE) Y i6 i7=Y ((l'.map iE).length,i6,aj .i64 (i7+1),t.A,l'.map iE):=by
 obtain⟨x,h1,hl,rfl⟩:=cg h;unfold Q_yoperands_1;simp only[aa (hx _ _ _ h1),aJ,aS,b6,Nat.beq_refl,show ∀x:Nat,Nat.beq x x=true from fun x=>Nat.beq_refl x,aR];rw[dK (by rw[lθ];show l.length+1<_;omega) (by decide),aR];rw[List.map_append];rfl
theorem Fk {m:Nat}{ex:PM Int}(hx:eo m 135 ex)(hm:100≤m)(k0:Nat×Int×Int×Bool×bm×LD→R):∀(k:Nat) (s t:PS) (l l':List Int),ru ex k l s=some (l',t)→l.length+k<1000→∀Q,k<Q→
  L_yoperands_1 (bv lay0.tab m) m k0 Q ((l.map iE).length,((l.length+k:Nat):Int),(l.length:Int),s.A,l.map iE)=k0 ((l'.map iE).length,((l.length+k:Nat):Int),((l.length+k:Nat):Int),false,t.A,l'.map iE)
 |0,s,t,l,l',h,hn,Q,hQ=>by
  obtain⟨Q,rfl⟩:∃j,Q=j+1:=⟨Q - 1,by omega⟩
  obtain⟨rfl,rfl⟩:=aF h;rw[mS];simp only[fh,Nat.add_zero,oA,aQ]
 |k+1,s,t,l,l',h,hn,Q,hQ=>by
  obtain⟨Q,rfl⟩:∃j,Q=j+1:=⟨Q - 1,by omega⟩
  rw[mS];unfold ru at h;simp only[fh,ue (show(l.length:Int)<((l.length+(k+1):Nat):Int) by omega),aR];have next:∀(s1 s2:PS) (l1:List Int),snoc ex l s1=some (l1,s2)→ru ex k l1 s2=some (l',t)→L_yoperands_1 (bv lay0.tab m) m k0 Q ((l1.map iE).length,((l.length+(k+1):Nat):Int),aj .i64 ((l.length:Int)+1),s2.A,l1.map iE)=k0 ((l'.map iE).length,((l.length+(k+1):Nat):Int),((l.length+(k+1):Nat):Int),false,t.A,l'.map iE):=by
   intro s1 s2 l1 h1 h2;obtain⟨x,-,-,rfl⟩:=cg h1;have:=Fk hx hm k0 k s2 t (l++[x]) l' h2 (by rw[lπ,List.length_singleton];omega) Q (by omega);rw[lπ,List.length_singleton,show l.length+1+k=l.length+(k+1) by omega]at this;rw[wS (show l.length<fA by unfold fA;omega)];exact this
  cases hl:l.isEmpty with
  |true=>
   rw[hl,cond_true]at h;obtain⟨l1,s1,h1,h⟩:=ae h;have:l.length=0:=by rw[List.isEmpty_iff.1 hl];rfl
   rw[Df (show ¬(0:Int)<(l.length:Int) by omega),aQ,Fl hx h1];exact next _ _ _ h1 h
  |false=>
   rw[hl,cond_false]at h;obtain⟨_,s0,h0,h⟩:=ae h;obtain⟨l1,s1,h1,h⟩:=ae h;have:0<l.length:=by cases l with|nil=>cases hl|cons=>simp
   rw[ue (show(0:Int)<(l.length:Int) by omega),aR];simp only[aa (rX h0 (by omega:63≤m)),bc,aM,b6];rw[Fl hx h1];exact next _ _ _ h1 h
theorem Do {c m:Nat}{ex:PM Int}(hx:RunF c 135 ex)(hc:c+1≤m)(hm1:131≤m)(n:Nat)(hn:n<100){s t:PS}{l:List Int}(h:Fq ex n s=some (l,t)):
  evFn lay0.tab m 136 [.box 0 0,.p (.int .i64 (n:Int))] s.A.hp=some (.p (.slice 1 (l.map iE)),t.A.hp):=by
 obtain⟨m,rfl,-⟩:=aO (show 0+1≤m by omega);apply DG m s.A n;unfold mG;obtain⟨_,s1,h1,h⟩:=ae h;obtain⟨l1,s2,h2,h⟩:=ae h;obtain⟨_,s3,h3,h⟩:=ae h;obtain⟨rfl,rfl⟩:=aF h;simp only[aa (Dk h1 (by omega:65≤m)),bc,aM,b6];have lp:=fun k0=>Fk (hx m (by omega)) (by omega) k0 n s1 s2 [] l1 h2 (by simp;omega) m (by omega)
 simp only[List.map_nil,List.length_nil,Nat.zero_add,show((0:Nat):Int)=0 from rfl]at lp;rw[lp];simp only[aa (Di h3 (by omega:65≤m)),bc,aM,b6,List.drop_zero,List.take_length]
theorem iU {m:Nat}{x:No}{s t:PS}{a:Int}(h:lU x s=some (a,t))(hm:70≤m):evFn lay0.tab m 132 [.box 0 0,.p x.e] s.A.hp=some (.p (.int .i64 a),t.A.hp):=by
 replace hm:=aO hm;obtain⟨m,rfl,hm⟩:=hm;apply M3 m s.A x.r;unfold vW;obtain⟨_,s1,h1,h⟩:=ae h;have ha:evFn lay0.tab m 123 [.box 0 0,.p x.r.e] s1.A.hp=some (.p (.int .i64 a),t.A.hp):=k9 h (by omega);simp only[aa (rX h1 (by omega:63≤m)),bc,aM,b6,aa ha,aJ,aS]
def UZ (c:Nat)(p:PM Int):Prop:=∀m,c≤m→∀(s t:PS) (a:Int),p s=some (a,t)→evFn lay0.tab m 107 [.box 0 0,.p (.bool false)] s.A.hp=some (.p (.int .i64 a),t.A.hp)
theorem vM {c d m:Nat}{ex bl:PM Int}(hx:RunF c 135 ex)(hb:UZ d bl)(hc:c+1≤m)(hd:d+1≤m)(hm1:131≤m)(op:Int){s t:PS}{a:Int}(h:AF op ex bl s=some (a,t)):
  evFn lay0.tab m 134 [.box 0 0,.p (.int .i64 op)] s.A.hp=some (.p (.int .i64 a),t.A.hp):=by
 obtain⟨m,rfl,-⟩:=aO (show 0+1≤m by omega);apply wN m s.A op;unfold iX;obtain⟨_,s1,h1,h⟩:=ae h;obtain⟨x,s2,h2,h⟩:=ae h;obtain⟨_,s3,h3,h⟩:=ae h;obtain⟨b,s4,h4,h⟩:=ae h;simp only[aa (Dk h1 (by omega:65≤m)),bc,aM,b6,aa (hx m (by omega) _ _ _ h2),aJ,aS,aa (Di h3 (by omega:65≤m)),aa (hb m (by omega) _ _ _ h4)];have q2:∀(a:Int) (t:PS) (l:LD),gx (.p (.int .i64 a)) (t.D l).hp=some (.p (.int .i64 a),t.A.hp):=fun a t l=>rfl
 have q1:∀(s4:PS),ea ⟨op,[],vz,[x,b]⟩ s4=some (a,t)→eK (bv lay0.tab m) op x b s4.A=some (.p (.int .i64 a),t.A.hp):=by
  intro s4 h;have ha:=NF (m:=m) h (by omega);have ha':evFn lay0.tab m 123 [(.box 0 0),(.agg [(.p (.int .i64 op)),(.p (.str [])),(.p (.int .i64 0)),(.p (.int .i64 0)),(.p (.str [])),(.p (.slice 1 [])),(.p (.slice 1 [])),(.arr 1 0 (List.length ([Da.int .i64 x]++[Da.int .i64 b])) 1)])] (Gv.mk s4.A.tk s4.A.ps s4.A.en s4.A.aT s4.A.er s4.A.ne s4.A.tt s4.A.nd ([Da.int .i64 x]++[Da.int .i64 b]) s4.A.no).hp=some (.p (.int .i64 a),(t.D (([x,b]:List Int).map iE)).hp):=ha;unfold eK;rw[aa ha',q2]
 cases ho:eqI op 11 with
 |false=>
  rw[ho,cond_false]at h;rw[aQ];exact q1 s4 h
 |true=>
  rw[ho,cond_true]at h;obtain⟨hz,h⟩:=aH h;rw[aR];simp only[aa (cY (m:=m) s4 _ hz (by omega)),aJ,aq,b6];rcases h with⟨hk,h⟩|⟨hk,h⟩
  ·obtain⟨_,s5,h5,h⟩:=ae h;obtain⟨-,rfl⟩:=bJ h5;obtain⟨e,s6,h6,h⟩:=ae h;have ha:=NF (m:=m) h (by omega);have ha':evFn lay0.tab m 123 [(.box 0 0),(.agg [(.p (.int .i64 op)),(.p (.str [])),(.p (.int .i64 0)),(.p (.int .i64 0)),(.p (.str [])),(.p (.slice 1 [])),(.p (.slice 1 [])),(.arr 1 0 (List.length ([Da.int .i64 x]++[Da.int .i64 b]++[Da.int .i64 e])) 1)])] (Gv.mk s6.A.tk s6.A.ps s6.A.en s6.A.aT s6.A.er s6.A.ne s6.A.tt s6.A.nd ([Da.int .i64 x]++[Da.int .i64 b]++[Da.int .i64 e]) s6.A.no).hp=some (.p (.int .i64 a),(t.D (([x,b,e]:List Int).map iE)).hp):=ha;simp only[hk,aR,cond_true,aa (hb m (by omega) _ _ _ h6),aJ,aS,b6,aa ha',q2]
  ·rw[hk,aQ];exact q1 s4 h
theorem ql {c d m q:Nat}{ex bl:PM Int}(hx:RunF c 135 ex)(hb:UZ d bl)(hc:c+6≤m)(hd:d+2≤m)(hm1:140≤m)(hq:q+5≤m)(hq':q<1000000):eo m 122 (mm ex bl q):=by
 obtain⟨m,rfl,-⟩:=aO (show 0+1≤m by omega);intro s t a h;apply BF m s.A;unfold lm;unfold mm at h;have hz:=(aH h).1;have hp:=iV (m:=m) s 0 (by decide) hz (by omega);simp only[show((0:Nat):Int)=0 from rfl]at hp;have hac:=fun x=>cY (m:=m) s x hz (by omega)
 have hq1:∀(a:Int) (t:PS),bA (.p (.int .i64 a)) t.A.hp=some (.p (.int .i64 a),t.A.hp):=fun a t=>rfl
 have hcn:=fun op (s:PS) (h:AF op ex bl s=some (a,t))=>vM (m:=m) hx hb (by omega) (by omega) (by omega) op h
 have hcall:=fun(s t:PS) (a:Int) (h:rA ex q s=some (a,t))=>Ip (m:=m) hx (by omega) (by omega) (by omega) hq' s t a h
 have hval:=fun(s t:PS) (a:Int) (h:tz ex q s=some (a,t))=>MF (m:=m) hx (by omega) (by omega) (by omega) hq' s t a h
 simp only[aa (hac _),aJ,aq,b6];cases c1:s.is [108,101,116]with
 |true=>
  have h:=f4 h c1;obtain⟨_,s1,h1,h⟩:=ae h;obtain⟨-,rfl⟩:=bJ h1;obtain⟨n,s2,h2,h⟩:=ae h;obtain⟨_,s3,h3,h⟩:=ae h;obtain⟨k,s4,h4,h⟩:=ae h;obtain⟨x,s5,h5,h⟩:=ae h;have ha:evFn lay0.tab m 132 [(.box 0 0),(.p (.agg [(.int .i64 8),(.str n),(.int .i64 k),(.int .i64 0),(.str []),(.slice 1 []),(.slice 1 []),(.slice 1 [Da.int .i64 x])]))] s5.A.hp=some (.p (.int .i64 a),t.A.hp):=iU h (by omega);simp only[aR,cond_true,aa (uW h2 (by omega:63≤m)),aJ,pJ,b6,aa (rX h3 (by omega:63≤m)),bc,aM,aa (Rl h4 (by omega:80≤m)),aS,aa (hval _ _ _ h5),aa ha,hq1]
 |false=>
 have h:=f3 h c1;simp only[aQ,cond_false,aa hp,aJ,xa,b6,show(s.peek 0).r.Kind=(s.peek 0).k from rfl];cases c2:eqI (s.peek 0).k 1 with
 |true=>
  have h:=f4 h c2;obtain⟨n,s2,h2,h⟩:=ae h;obtain⟨x,s5,h5,h⟩:=ae h;have ha:evFn lay0.tab m 132 [(.box 0 0),(.p (.agg [(.int .i64 9),(.str n),(.int .i64 0),(.int .i64 0),(.str []),(.slice 1 []),(.slice 1 []),(.slice 1 [Da.int .i64 x])]))] s5.A.hp=some (.p (.int .i64 a),t.A.hp):=iU h (by omega);simp only[aR,aa (uW h2 (by omega:63≤m)),aJ,pJ,b6,aS,aa (hval _ _ _ h5),aa ha,hq1]
 |false=>
 have h:=f3 h c2;simp only[aQ,aa (gw (m:=m) s _ hz (by omega)),aJ,aq,b6];cases c3:s.is [99,97,108,108]with
 |true=>
  have h:=f4 h c3;obtain⟨x,s5,h5,h⟩:=ae h;have ha:evFn lay0.tab m 132 [(.box 0 0),(.p (.agg [(.int .i64 10),(.str []),(.int .i64 0),(.int .i64 0),(.str []),(.slice 1 []),(.slice 1 []),(.slice 1 [Da.int .i64 x])]))] s5.A.hp=some (.p (.int .i64 a),t.A.hp):=iU h (by omega);simp only[aR,aa (hcall _ _ _ h5),aJ,b6,aS,aa ha,hq1]
 |false=>
 have h:=f3 h c3;simp only[aQ,aa (hac _),aJ,aq,b6];cases c4:s.is [105,102]with
 |true=>
  have h:=f4 h c4;obtain⟨_,s1,h1,h⟩:=ae h;obtain⟨-,rfl⟩:=bJ h1;simp only[aR,cond_true,aa (hcn 11 _ h),hq1]
 |false=>
 have h:=f3 h c4;simp only[aQ,cond_false,aa (hac _),aJ,aq,b6];cases c5:s.is [119,104,105,108,101]with
 |true=>
  have h:=f4 h c5;obtain⟨_,s1,h1,h⟩:=ae h;obtain⟨-,rfl⟩:=bJ h1;simp only[aR,cond_true,aa (hcn 12 _ h),hq1]
 |false=>
 have h:=f3 h c5;simp only[aQ,cond_false,aa (hac _),aJ,aq,b6];cases c6:s.is [114,101,116,117,114,110]with
 |true=>
  have h:=f4 h c6;obtain⟨_,s1,h1,h⟩:=ae h;obtain⟨-,rfl⟩:=bJ h1;obtain⟨hz1,h⟩:=aH h;simp only[aR,cond_true,aa (gw (m:=m) s.up _ hz1 (by omega)),aJ,aq,b6];rcases h with⟨hk,h⟩|⟨hk,h⟩
  ·have ha:evFn lay0.tab m 132 [(.box 0 0),(.p (.agg [(.int .i64 13),(.str []),(.int .i64 0),(.int .i64 0),(.str []),(.slice 1 []),(.slice 1 []),(.slice 1 [])]))] s.up.A.hp=some (.p (.int .i64 a),t.A.hp):=iU h (by omega);simp only[hk,Bool.not_true,aQ,aa ha,hq1]
  ·obtain⟨x,s5,h5,h⟩:=ae h;have ha:evFn lay0.tab m 132 [(.box 0 0),(.p (.agg [(.int .i64 13),(.str []),(.int .i64 0),(.int .i64 0),(.str []),(.slice 1 []),(.slice 1 []),(.slice 1 [Da.int .i64 x])]))] s5.A.hp=some (.p (.int .i64 a),t.A.hp):=iU h (by omega);simp only[hk,Bool.not_false,aR,aa (hx m (by omega) _ _ _ h5),aJ,aS,b6,aa ha,hq1]
 |false=>
 have h:=f3 h c6;simp only[aQ,cond_false,aa (hac _),aJ,aq,b6];cases c7:s.is [102,97,105,108]with
 |true=>
  have h:=f4 h c7;obtain⟨_,s1,h1,h⟩:=ae h;obtain⟨-,rfl⟩:=bJ h1;have ha:evFn lay0.tab m 132 [(.box 0 0),(.p (.agg [(.int .i64 14),(.str []),(.int .i64 0),(.int .i64 0),(.str []),(.slice 1 []),(.slice 1 []),(.slice 1 [])]))] s.up.A.hp=some (.p (.int .i64 a),t.A.hp):=iU h (by omega);simp only[aR,cond_true,aa ha,hq1]
 |false=>
 have h:=f3 h c7;simp only[aQ,cond_false,aa (hac _),aJ,aq,b6];have hops:∀(n:Nat) (op:Int),n<100→∀s1:PS,((Fq ex n).bnd fun l=>lU ⟨op,[],vz,l⟩) s1=some (a,t)→∃(l:List Int) (s2:PS),evFn lay0.tab m 136 [.box 0 0,.p (.int .i64 (n:Int))] s1.A.hp=some (.p (.slice 1 (l.map iE)),s2.A.hp)∧evFn lay0.tab m 132 [(.box 0 0),(.p (.agg [(.int .i64 op),(.str []),(.int .i64 0),(.int .i64 0),(.str []),(.slice 1 []),(.slice 1 []),(.slice 1 (l.map iE))]))] s2.A.hp=some (.p (.int .i64 a),t.A.hp):=by
  intro n op hn s1 h;obtain⟨l,s2,h2,h⟩:=ae h;exact⟨l,s2,Do hx (by omega) (by omega) n hn h2,iU h (by omega)⟩
 cases c8:s.is [101,109,105,116]with
 |true=>
  have h:=f4 h c8;obtain⟨_,s1,h1,h⟩:=ae h;obtain⟨-,rfl⟩:=bJ h1;obtain⟨l,s2,ho,ha⟩:=hops 2 15 (by decide) _ h;simp only[show((2:Nat):Int)=2 from rfl]at ho;simp only[aR,cond_true,aa ho,aJ,qM,b6,aa ha,hq1]
 |false=>
 have h:=f3 h c8;simp only[aQ,cond_false,aa (hac _),aJ,aq,b6];cases c9:s.is [114,101,109,105,110,100]with
 |true=>
  have h:=f4 h c9;obtain⟨_,s1,h1,h⟩:=ae h;obtain⟨-,rfl⟩:=bJ h1;obtain⟨l,s2,ho,ha⟩:=hops 3 16 (by decide) _ h;simp only[show((3:Nat):Int)=3 from rfl]at ho;simp only[aR,cond_true,aa ho,aJ,qM,b6,aa ha,hq1]
 |false=>
 have h:=f3 h c9;simp only[aQ,cond_false,aa (hac _),aJ,aq,b6];cases c10:s.is [99,97,110,99,101,108]with
 |true=>
  have h:=f4 h c10;obtain⟨_,s1,h1,h⟩:=ae h;obtain⟨-,rfl⟩:=bJ h1;obtain⟨l,s2,ho,ha⟩:=hops 1 17 (by decide) _ h;simp only[show((1:Nat):Int)=1 from rfl]at ho;simp only[aR,cond_true,aa ho,aJ,qM,b6,aa ha,hq1]
 |false=>
 have h:=f3 h c10;obtain⟨_,s1,h1,h⟩:=ae h;obtain⟨-,rfl⟩:=Er h1;obtain⟨rfl,rfl⟩:=aF h;simp only[aQ,cond_false,aa (fR (m:=m) s 13 (by omega)),bc,aM,b6]
end
end Go.Ab
end
section
namespace Go.Ab
open Go
set_option maxRecDepth 100000
noncomputable section
theorem wV {m:Nat}{st:PM Int}(hs:eo m 122 st)(hm:100≤m)(b:Bool):∀(q':Nat) (s t:PS) (l l':List Int),gt st q' l s=some (l',t)→∀Q,q'≤Q→
  ∃b1:Bool,∀k0:Bool×Bool×bm×LN×LN×Nat×LD→R,ly (bv lay0.tab m) m k0 Q (b,s.A,[],[],(l.map iE).length,l.map iE)=k0 (b,b1,t.A,[],[],(l'.map iE).length,l'.map iE)
 |0,s,t,l,l',h,Q,hQ=>by cases h
 |q'+1,s,t,l,l',h,Q,hQ=>by
  obtain⟨Q,rfl⟩:∃j,Q=j+1:=⟨Q - 1,by omega⟩
  unfold gt at h;rcases bx h with⟨hk,h⟩|⟨hk,h⟩
  ·obtain⟨hz,h⟩:=aH h;rcases h with⟨hc,h⟩|⟨hc,h⟩
   ·obtain⟨rfl,rfl⟩:=aF h;refine⟨false,fun k0=>?_⟩
    rw[mR];simp only[gA,aa (fS (m:=m) s (by omega)),aJ,aq,b6,hk,aR,aa (gw (m:=m) s _ hz (by omega)),hc,Bool.not_true,aQ]
   ·obtain⟨l1,s1,h1,h⟩:=ae h;obtain⟨x,h2,hl,rfl⟩:=cg h1;obtain⟨b1,ih⟩:=wV hs hm b q' s1 t (l++[x]) l' h Q (by omega);refine⟨b1,fun k0=>?_⟩
    rw[mR];replace ih:=ih k0;rw[List.map_append]at ih;simp only[gA,aa (fS (m:=m) s (by omega)),aJ,aq,b6,hk,aR,aa (gw (m:=m) s _ hz (by omega)),hc,Bool.not_false,aa (hs _ _ _ h2),aS,Nat.beq_refl,show ∀x:Nat,Nat.beq x x=true from fun x=>Nat.beq_refl x];rw[dK (by rw[lθ];show l.length+1<_;omega) (by decide),aR];exact ih
  ·obtain⟨rfl,rfl⟩:=aF h;refine⟨false,fun k0=>?_⟩
   rw[mR];simp only[gA,aa (fS (m:=m) s (by omega)),aJ,aq,b6,hk,aQ]
theorem tQ {m:Nat}{st:PM Int}(hs:eo m 122 st)(hm:100≤m)(b:Bool):∀(q':Nat) (s t:PS) (l l':List Int),gt st q' l s=some (l',t)→∀Q,q'≤Q→
  ∃b1:Bool,∀k0:Bool×Bool×bm×LN×LN×Nat×LD→R,jF (bv lay0.tab m) m k0 Q (b,s.A,[],[],(l.map iE).length,l.map iE)=k0 (b,b1,t.A,[],[],(l'.map iE).length,l'.map iE)
 |0,s,t,l,l',h,Q,hQ=>by cases h
 |q'+1,s,t,l,l',h,Q,hQ=>by
  obtain⟨Q,rfl⟩:∃j,Q=j+1:=⟨Q - 1,by omega⟩
  unfold gt at h;rcases bx h with⟨hk,h⟩|⟨hk,h⟩
  ·obtain⟨hz,h⟩:=aH h;rcases h with⟨hc,h⟩|⟨hc,h⟩
   ·obtain⟨rfl,rfl⟩:=aF h;refine⟨false,fun k0=>?_⟩
    rw[lB];simp only[fH,aa (fS (m:=m) s (by omega)),aJ,aq,b6,hk,aR,aa (gw (m:=m) s _ hz (by omega)),hc,Bool.not_true,aQ]
   ·obtain⟨l1,s1,h1,h⟩:=ae h;obtain⟨x,h2,hl,rfl⟩:=cg h1;obtain⟨b1,ih⟩:=tQ hs hm b q' s1 t (l++[x]) l' h Q (by omega);refine⟨b1,fun k0=>?_⟩
    rw[lB];replace ih:=ih k0;rw[List.map_append]at ih;simp only[fH,aa (fS (m:=m) s (by omega)),aJ,aq,b6,hk,aR,aa (gw (m:=m) s _ hz (by omega)),hc,Bool.not_false,aa (hs _ _ _ h2),aS,Nat.beq_refl,show ∀x:Nat,Nat.beq x x=true from fun x=>Nat.beq_refl x];rw[dK (by rw[lθ];show l.length+1<_;omega) (by decide),aR];exact ih
  ·obtain⟨rfl,rfl⟩:=aF h;refine⟨false,fun k0=>?_⟩
   rw[lB];simp only[fH,aa (fS (m:=m) s (by omega)),aJ,aq,b6,hk,aQ]
theorem Mw {c m q:Nat}{st:PM Int}(hs:∀k,c≤k→eo k 122 st)(hc:c+1≤m)(hm1:110≤m)(hq:q+1≤m){s t:PS}{a:Int}(h:kj (.ret ()) st q s=some (a,t)):
  evFn lay0.tab m 107 [.box 0 0,.p (.bool false)] s.A.hp=some (.p (.int .i64 a),t.A.hp):=by
 obtain⟨m,rfl,-⟩:=aO (show 0+1≤m by omega);apply M1 m s.A false;unfold vU;obtain⟨_,s1,h1,h⟩:=ae h;obtain⟨l,s2,h2,h⟩:=ae h;simp only[aa (Dk h1 (by omega:65≤m)),bc,aM,b6];obtain⟨b1,lp⟩:=wV (hs m (by omega)) (by omega) false q s1 s2 [] l h2 m (by omega);simp only[List.map_nil,List.length_nil]at lp;rw[lp];simp only[aa (fS (m:=m) s2 (by omega)),aJ,aq,b6];rcases bx h with⟨hk,h⟩|⟨hk,h⟩
 ·obtain⟨x,s3,h3,h⟩:=ae h;obtain⟨_,s4,h4,h⟩:=ae h;obtain⟨-,rfl⟩:=aF h4;obtain⟨_,s5,h5,h⟩:=ae h;obtain⟨rfl,rfl⟩:=aF h;have ha:=NF (m:=m) h3 (by omega);have hcl:evFn lay0.tab m 124 [.box 0 0,.p (.str [125])] (bm.mk (s3.D (l.map iE)).tk (s3.D (l.map iE)).ps (s3.D (l.map iE)).en (s3.D (l.map iE)).aT (s3.D (l.map iE)).er (s3.D (l.map iE)).ne (s3.D (l.map iE)).tt (s3.D (l.map iE)).nd (s3.D (l.map iE)).no).hp=some (.tup [],s5.A.hp):=Di h5 (by omega);simp only[hk,Bool.not_true,aQ,aa ha,aJ,aS,YL,aa hcl];rfl
 ·obtain⟨rfl,rfl⟩:=aF h;simp only[hk,Bool.not_false,aR]
theorem Tw {s t:PS}{u:Unit}(h:pLim s=some (u,t)):s.nd.length<10000∧0<s.nd.length∧(∀x∈s.nd,lw s.nd.length x.kids)∧(∀x∈s.nd,x.kids.length<10000)∧(bif bo 1500 (aj .i64 (s.tt+(s.nd.length:Int)))then s.fail 5 else bif bo 24 (iH s.nd)then s.fail 5 else s)=t:=by
 unfold pLim at h;cases hb:(decide (s.nd.length<10000)&&decide (0<s.nd.length)&&s.nd.all (sY s.nd.length))with
 |false=>rw[hb]at h;cases h
 |true=>
  rw[hb]at h;simp only[lγ,lβ,mζ,sY,mh,oJ]at hb;injection h with h;injection h with _ h;exact⟨hb.1.1,hb.1.2,fun x hx=>(hb.2 x hx).2,fun x hx=>(hb.2 x hx).1,h⟩
theorem E_yblockN {c m q:Nat}{st:PM Int}(hs:∀k,c≤k→eo k 122 st)(hc:c+1≤m)(hm1:10010≤m)(hq:q+1≤m){s t:PS}{a:Int}(h:kj pLim st q {s with nd:=[],ne:=0}=some (a,t)):
  evFn lay0.tab m 107 [.box 0 0,.p (.bool true)] (FX.mk s.B.tk s.B.ps s.B.en s.B.aT s.B.er 0 s.B.tt).hp=some (.p (.int .i64 a),t.A.hp):=by
 obtain⟨m,rfl,-⟩:=aO (show 0+1≤m by omega);apply J8 m (FX.mk s.B.tk s.B.ps s.B.en s.B.aT s.B.er 0 s.B.tt) true;unfold sb;obtain⟨_,s1,h1,h⟩:=ae h;obtain⟨l,s2,h2,h⟩:=ae h;have ho:evFn lay0.tab m 121 [.box 0 0,.p (.str [123])] (bm.mk (FX.mk s.B.tk s.B.ps s.B.en s.B.aT s.B.er 0 s.B.tt).tk (FX.mk s.B.tk s.B.ps s.B.en s.B.aT s.B.er 0 s.B.tt).ps (FX.mk s.B.tk s.B.ps s.B.en s.B.aT s.B.er 0 s.B.tt).en (FX.mk s.B.tk s.B.ps s.B.en s.B.aT s.B.er 0 s.B.tt).aT (FX.mk s.B.tk s.B.ps s.B.en s.B.aT s.B.er 0 s.B.tt).er (FX.mk s.B.tk s.B.ps s.B.en s.B.aT s.B.er 0 s.B.tt).ne (FX.mk s.B.tk s.B.ps s.B.en s.B.aT s.B.er 0 s.B.tt).tt 0 []).hp=some (.tup [],s1.A.hp):=Dk h1 (by omega);simp only[aa ho,bc,aM,b6];obtain⟨b1,lp⟩:=tQ (hs m (by omega)) (by omega) true q s1 s2 [] l h2 m (by omega);simp only[List.map_nil,List.length_nil]at lp;rw[lp];simp only[aa (fS (m:=m) s2 (by omega)),aJ,aq,b6];rcases bx h with⟨hk,h⟩|⟨hk,h⟩
 ·obtain⟨x,s3,h3,h⟩:=ae h;obtain⟨_,s4,h4,h⟩:=ae h;obtain⟨g1,g2,g3,g4,g5⟩:=Tw h4;obtain⟨_,s5,h5,h⟩:=ae h;obtain⟨rfl,rfl⟩:=aF h;have ha:=NF (m:=m) h3 (by omega);have hf:=fR (m:=m) s3 5 (by omega);have hf':evFn lay0.tab m 44 [.box 0 0,.p (.int .i64 5)] (bm.mk (s3.D (l.map iE)).tk (s3.D (l.map iE)).ps (s3.D (l.map iE)).en (s3.D (l.map iE)).aT (s3.D (l.map iE)).er (s3.D (l.map iE)).ne (s3.D (l.map iE)).tt (s3.D (l.map iE)).nd (s3.D (l.map iE)).no).hp=some (.tup [],(s3.fail 5).A.hp):=hf;have hf2:evFn lay0.tab m 44 [.box 0 0,.p (.int .i64 5)] (bm.mk (s3.D (l.map iE)).tk (s3.D (l.map iE)).ps (s3.D (l.map iE)).en (s3.D (l.map iE)).aT (s3.D (l.map iE)).er (s3.D (l.map iE)).ne (s3.D (l.map iE)).tt (s3.D (l.map iE)).nd (s3.nd.map No.e)).hp=some (.tup [],(s3.fail 5).A.hp):=hf;have hh:evFn lay0.tab m 55 [.arr 0 0 (s3.D (l.map iE)).nd 8] [.arr (s3.D (l.map iE)).no]=some (.p (.int .i64 (iH s3.nd)),[.arr (s3.nd.map No.e)]):=JS (m:=m) s3.nd g2 g3 g4 g1 (by omega);have hcl:evFn lay0.tab m 124 [.box 0 0,.p (.str [125])] s4.A.hp=some (.tup [],s5.A.hp):=Di h5 (by omega);have q1:∀(a:Int) (t:PS),gZ (.tup []) t.A.hp a=some (.p (.int .i64 a),t.A.hp):=fun a t=>rfl
  have ht:bo 1500 (aj .i64 ((s3.D (l.map iE)).tt+ ↑(s3.D (l.map iE)).nd))=bo 1500 (aj .i64 (s3.tt+(s3.nd.length:Int))):=rfl;simp only[hk,Bool.not_true,aQ,aa ha,aJ,aS,YL,aR,ht];cases c1:bo 1500 (aj .i64 (s3.tt+(s3.nd.length:Int)))with
  |true=>
   rw[c1,cond_true]at g5;rw[←g5]at hcl;simp only[aR,aa hf',bc,aM,b6,aa hcl,q1]
  |false=>
   rw[c1,cond_false]at g5;simp only[aQ,aa hh,aJ,aS,jM,gL,aM];cases c2:bo 24 (iH s3.nd)with
   |true=>
    rw[c2,cond_true]at g5;rw[←g5]at hcl;simp only[aR,aa hf2,bc,aM,b6,aa hcl,q1]
   |false=>
    rw[c2,cond_false]at g5;subst g5;have hcl2:evFn lay0.tab m 124 [.box 0 0,.p (.str [125])] (bm.mk (s3.D (l.map iE)).tk (s3.D (l.map iE)).ps (s3.D (l.map iE)).en (s3.D (l.map iE)).aT (s3.D (l.map iE)).er (s3.D (l.map iE)).ne (s3.D (l.map iE)).tt (s3.D (l.map iE)).nd (s3.nd.map No.e)).hp=some (.tup [],s5.A.hp):=hcl;simp only[aQ,aa hcl2,q1]
 ·obtain⟨rfl,rfl⟩:=aF h;simp only[hk,Bool.not_false,aR]
theorem Un {q:Nat}(hq:q<1000000)(f0:Nat):∀f,f≤f0→UZ (q+300+12*f0+5*f) (Ku q f)
 |0,_=>fun m hm s t a h=>by simp only[Ku]at h;cases h
 |f+1,hf=>fun m hm s t a h=>by
  have ih:=Un hq f0 f (by omega);simp only[Ku]at h;exact Mw (c:=q+300+12*f0+5*f+4) (fun k hk=>ql (Pz hq f 0 (by omega)) ih (by omega) (by omega) (by omega) (by omega) hq) (by omega) (by omega) (by omega) h
theorem R5 {q f m:Nat}(hq:q<1000000)(hm:q+310+17*f≤m)(hm1:10010≤m){s t:PS}{a:Int}(h:kj pLim (mm (ku q f 0) (Ku q f) q) q {s with nd:=[],ne:=0}=some (a,t)):
  evFn lay0.tab m 107 [.box 0 0,.p (.bool true)] (FX.mk s.B.tk s.B.ps s.B.en s.B.aT s.B.er 0 s.B.tt).hp=some (.p (.int .i64 a),t.A.hp):=
 E_yblockN (c:=q+300+17*f+4) (fun k hk=>ql (Pz hq f 0 (by omega)) (Un hq f f (Nat.le_refl f)) (by omega) (by omega) (by omega) (by omega) hq) (by omega) hm1 (by omega) h
end
end Go.Ab
end
section
namespace Go.Ab
open Go
set_option maxRecDepth 100000
noncomputable section
theorem yX {m q:Nat}(vk vn:Int)(vs:List Nat)(hm1:110≤m)(hq:q+1≤m)(hq':q<1000000){s t:PS}{l l':List Int}(h:B2 GQ (snoc pInt) 16 q l s=some (l',t)):
  evFn lay0.tab m 104 [.box 0 0,.p (.int .i64 16),.fn 116 [.box 1 0],.fn 117 [.box 2 0,.box 1 0]] (s.BI vk vn vs (l.map iE)).hp=some (.tup [],(t.BI vk vn vs (l'.map iE)).hp):=by
 obtain⟨m,rfl,-⟩:=aO (show 0+1≤m by omega);apply zc m (s.BI vk vn vs (l.map iE)) 16;unfold jZ;obtain⟨hz,h⟩:=aH h;have e1:evFn lay0.tab m 43 [.box 0 0,.p (.str [41])] (bD.mk (s.BI vk vn vs (l.map iE)).tk (s.BI vk vn vs (l.map iE)).ps (s.BI vk vn vs (l.map iE)).en (s.BI vk vn vs (l.map iE)).aT (s.BI vk vn vs (l.map iE)).er (s.BI vk vn vs (l.map iE)).ne (s.BI vk vn vs (l.map iE)).tt (s.BI vk vn vs (l.map iE)).nd).hp=some (.p (.bool (s.is [41])),s.B.hp):=lb (m:=m) s _ hz (by omega);simp only[aa e1,aJ,aq,fD];rcases h with⟨hk,h⟩|⟨hk,h⟩
 ·obtain⟨rfl,rfl⟩:=aF h;rw[hk];rfl
 ·rw[hk,aQ];exact Ee (by omega) vk vn vs q s t 0 l l' h (by omega) m (by omega)
theorem yY {m q:Nat}(vk vn:Int)(vs:List Nat)(hm1:110≤m)(hq:q+1≤m)(hq':q<1000000){s t:PS}{l l':List (List Nat)}(h:B2 GT (snoc ((mo 4).bnd fun t=> .ret t.s)) 16 q l s=some (l',t)):
  evFn lay0.tab m 104 [.box 0 0,.p (.int .i64 16),.fn 119 [.box 1 0],.fn 120 [.box 2 0,.box 1 0]] (s.BL vk vn vs (l.map Da.str)).hp=some (.tup [],(t.BL vk vn vs (l'.map Da.str)).hp):=by
 obtain⟨m,rfl,-⟩:=aO (show 0+1≤m by omega);apply ze m (s.BL vk vn vs (l.map Da.str)) 16;unfold j0;obtain⟨hz,h⟩:=aH h;have e1:evFn lay0.tab m 43 [.box 0 0,.p (.str [41])] (bD.mk (s.BL vk vn vs (l.map Da.str)).tk (s.BL vk vn vs (l.map Da.str)).ps (s.BL vk vn vs (l.map Da.str)).en (s.BL vk vn vs (l.map Da.str)).aT (s.BL vk vn vs (l.map Da.str)).er (s.BL vk vn vs (l.map Da.str)).ne (s.BL vk vn vs (l.map Da.str)).tt (s.BL vk vn vs (l.map Da.str)).nd).hp=some (.p (.bool (s.is [41])),s.B.hp):=lb (m:=m) s _ hz (by omega);simp only[aa e1,aJ,aq,fD];rcases h with⟨hk,h⟩|⟨hk,h⟩
 ·obtain⟨rfl,rfl⟩:=aF h;rw[hk];rfl
 ·rw[hk,aQ];exact Ef (by omega) vk vn vs q s t 0 l l' h (by omega) m (by omega)
theorem A7 {m q:Nat}(hm1:120≤m)(hq:q+2≤m)(hq':q<1000000){s t:PS}{v:Va}(h:yd q s=some (v,t)):evFn lay0.tab m 103 [.box 0 0] s.B.hp=some (.p v.e,t.B.hp):=by
 obtain⟨m,rfl,-⟩:=aO (show 0+1≤m by omega);apply BC m s.B;unfold li;obtain⟨hz,h⟩:=w7 h;have hp:=iW (m:=m) s 0 (by decide) hz (by omega);simp only[show((0:Nat):Int)=0 from rfl]at hp;have hac:=fun x=>eq (m:=m) s x hz (by omega)
 simp only[aa hp,aJ,xa,fD,show(s.peek 0).r.Kind=(s.peek 0).k from rfl];rcases h with⟨h1,h⟩|⟨h1,h2,h⟩|⟨h1,h2,h3,h⟩|⟨h1,h2,h3,h⟩
 ·injection h with h4 h5;subst h4 h5;rw[h1,aR,ZN hz (by decide) h1];rfl
 ·injection h with h4 h5;subst h4 h5;rw[h1,aQ];simp only[aa (hac _),aJ,aq,fD];rw[h2,aR];rfl
 ·injection h with h4 h5;subst h4 h5;rw[h1,aQ];simp only[aa (hac _),aJ,aq,fD];rw[h2,aQ,cond_false];simp only[aa (hac _),aJ,aq,fD];rw[h3,aR];rfl
 ·rw[h1,aQ];simp only[aa (hac _),aJ,aq,fD];rw[h2,aQ,cond_false];simp only[aa (hac _),aJ,aq,fD];rw[h3,aQ,cond_false];simp only[aa (hac _),aJ,aq,fD];cases c4:s.is [105,110,116,115]with
  |true=>
   have h:=f4 h c4;obtain⟨_,s1,h5,h⟩:=ae h;obtain⟨-,rfl⟩:=bJ h5;obtain⟨_,s2,h6,h⟩:=ae h;obtain⟨l,s3,h7,h⟩:=ae h;obtain⟨_,s4,h8,h⟩:=ae h;obtain⟨rfl,rfl⟩:=aF h;have he:evFn lay0.tab m 104 [.box 0 0,.p (.int .i64 16),.fn 116 [.box 1 0],.fn 117 [.box 2 0,.box 1 0]] (j6.mk s2.B.tk s2.B.ps s2.B.en s2.B.aT s2.B.er s2.B.ne s2.B.tt s2.B.nd 4 0 [] 0 []).hp=some (.tup [],(s3.BI 4 0 [] (l.map iE)).hp):=yX (m:=m) 4 0 [] (by omega) (by omega) hq' h7;have hx:evFn lay0.tab m 74 [.box 0 0,.p (.str [41])] (bD.mk (s3.BI 4 0 [] (l.map iE)).tk (s3.BI 4 0 [] (l.map iE)).ps (s3.BI 4 0 [] (l.map iE)).en (s3.BI 4 0 [] (l.map iE)).aT (s3.BI 4 0 [] (l.map iE)).er (s3.BI 4 0 [] (l.map iE)).ne (s3.BI 4 0 [] (l.map iE)).tt (s3.BI 4 0 [] (l.map iE)).nd).hp=some (.tup [],s4.B.hp):=fy h8 (by omega);simp only[aR,cond_true,aa (fy h6 (by omega:63≤m)),bc,aM,fD,aa he,YJ,aa hx];have e3:List.take (s3.BI 4 0 [] (l.map iE)).vi (List.drop 0 (s3.BI 4 0 [] (l.map iE)).il)=l.map iE:=by
    show List.take (l.map iE).length (List.drop 0 (l.map iE))=_;rw[List.drop_zero,List.take_length]
   rw[e3];rfl
  |false=>
   have h:=f3 h c4;simp only[aQ,cond_false,aa (hac _),aJ,aq,fD];cases c5:s.is [115,116,114,105,110,103,115]with
   |true=>
    have h:=f4 h c5;obtain⟨_,s1,h5,h⟩:=ae h;obtain⟨-,rfl⟩:=bJ h5;obtain⟨_,s2,h6,h⟩:=ae h;obtain⟨l,s3,h7,h⟩:=ae h;obtain⟨_,s4,h8,h⟩:=ae h;obtain⟨rfl,rfl⟩:=aF h;have he:evFn lay0.tab m 104 [.box 0 0,.p (.int .i64 16),.fn 119 [.box 1 0],.fn 120 [.box 2 0,.box 1 0]] (j7.mk s2.B.tk s2.B.ps s2.B.en s2.B.aT s2.B.er s2.B.ne s2.B.tt s2.B.nd 5 0 [] 0 []).hp=some (.tup [],(s3.BL 5 0 [] (l.map Da.str)).hp):=yY (m:=m) 5 0 [] (by omega) (by omega) hq' h7;have hx:evFn lay0.tab m 74 [.box 0 0,.p (.str [41])] (bD.mk (s3.BL 5 0 [] (l.map Da.str)).tk (s3.BL 5 0 [] (l.map Da.str)).ps (s3.BL 5 0 [] (l.map Da.str)).en (s3.BL 5 0 [] (l.map Da.str)).aT (s3.BL 5 0 [] (l.map Da.str)).er (s3.BL 5 0 [] (l.map Da.str)).ne (s3.BL 5 0 [] (l.map Da.str)).tt (s3.BL 5 0 [] (l.map Da.str)).nd).hp=some (.tup [],s4.B.hp):=fy h8 (by omega);simp only[aR,cond_true,aa (fy h6 (by omega:63≤m)),bc,aM,fD,aa he,YK,aa hx];have e3:List.take (s3.BL 5 0 [] (l.map Da.str)).vl (List.drop 0 (s3.BL 5 0 [] (l.map Da.str)).il)=l.map Da.str:=by
     show List.take (l.map Da.str).length (List.drop 0 (l.map Da.str))=_;rw[List.drop_zero,List.take_length]
    rw[e3];rfl
   |false=>
    have h:=f3 h c5;obtain⟨n,s1,h6,h⟩:=ae h;obtain⟨rfl,rfl⟩:=aF h;simp only[aQ,cond_false,aa (tK h6 (by omega:65≤m)),aJ,aS,fD];rfl
theorem As:∀(l:List (List Nat)) (i:Int) (s:PS),0≤i→0≤(eX l i s).1∧(eX l i s).1<i+l.length∨l=[]
 |[],i,s,_=> .inr rfl
 |x::r,i,s,hi=>by
  left;simp only[eX,List.length_cons];cases s.is x with
  |true=>rw[cond_true];exact⟨hi,by show i<_;omega⟩
  |false=>
   rw[cond_false];rcases As r (i+1) s (by omega)with⟨h1,h2⟩|rfl
   ·exact⟨h1,by omega⟩
   ·simp only[eX,List.length_nil];omega
theorem Tq {s t:PS}{k:Int}(h:pKind s=some (k,t)):0≤k∧k≤5:=by
 obtain⟨hz,h⟩:=xE h;rcases As kindL 1 s (by omega)with⟨h1,h2⟩|h1
 ·rw[h]at h1 h2;have:kindL.length=5:=rfl;rw[this]at h2;exact⟨h1,by omega⟩
 ·cases h1
theorem Mx {m q:Nat}(hm1:130≤m)(hq:q+3≤m)(hq':q<1000000){s t:PS}{f:Fe}(h:p8 q s=some (f,t)):evFn lay0.tab m 76 [.box 0 0] s.B.hp=some (.p f.e,t.B.hp):=by
 obtain⟨m,rfl,-⟩:=aO (show 0+1≤m by omega);apply M6 m s.B;unfold vZ pB;obtain⟨_,s1,h1,h⟩:=ae h;obtain⟨n,s2,h2,h⟩:=ae h;obtain⟨_,s3,h3,h⟩:=ae h;obtain⟨k,s4,h4,h⟩:=ae h;obtain⟨_,s5,h5,h⟩:=ae h;obtain⟨_,s6,h6,h⟩:=ae h;obtain⟨hz,h6⟩:=bb h6;injection h6 with _ h6;obtain⟨v,s7,h7,h⟩:=ae h;obtain⟨_,s8,h8,h⟩:=ae h;obtain⟨rfl,rfl⟩:=aF h;have hk:=Tq h4;have hp:=iW (m:=m) s5 0 (by decide) hz (by omega);simp only[show((0:Nat):Int)=0 from rfl]at hp;have his:=fun x=>lb (m:=m) s5 x hz (by omega)
 have hcst:=A7 (m:=m) (by omega) (by omega) hq' h7;have q2:gy (bv lay0.tab m) s6.B n k=some (.p (Fe.e ⟨n,k,v⟩),s8.B.hp):=by
  unfold gy;simp only[aa hcst,aJ,Zp,fD,aa (fy h8 (by omega:63≤m)),bc,aM];rfl
 have q1:∀b,b=iG k s5→ct b (bv lay0.tab m) s5.B n k=some (.p (Fe.e ⟨n,k,v⟩),s8.B.hp):=by
  intro b hb;unfold ct;rw[←hb]at h6;cases b with
  |true=>
   simp only[Bool.not_true,cond_false]at h6;subst h6;simp only[Bool.not_true,aQ];exact q2
  |false=>
   simp only[Bool.not_false,cond_true]at h6;subst h6;simp only[Bool.not_false,aR,aa (cQ (m:=m) s5 13 (by omega)),bc,aM,fD];exact q2
 have ij:∀b1 b2 b3 b4 b5:Bool,b1=(s5.is [45]||eqI (s5.peek 0).k 3)→b2=(s5.is [116,114,117,101]||s5.is [102,97,108,115,101])→b3=eqI (s5.peek 0).k 4→b4=s5.is [105,110,116,115]→b5=s5.is [115,116,114,105,110,103,115]→
   iL (eqI k ↑(0:Nat)) (bv lay0.tab m 44 [(.box 0 0),(.p (.int .i64 13))] s5.B.hp fun d130 o131=>aZ d130 fun r132=>aB r132<|aN o131 fun u133=>gy (bv lay0.tab m) u133 n k)
    (iL (eqI k ↑(0+1:Nat)) (ct b1 (bv lay0.tab m) s5.B n k) (iL (eqI k ↑(0+1+1:Nat)) (ct b2 (bv lay0.tab m) s5.B n k) (iL (eqI k ↑(0+1+1+1:Nat)) (ct b3 (bv lay0.tab m) s5.B n k)
     (iL (eqI k ↑(0+1+1+1+1:Nat)) (ct b4 (bv lay0.tab m) s5.B n k) (iL (eqI k ↑(0+1+1+1+1+1:Nat)) (ct b5 (bv lay0.tab m) s5.B n k) none)))))=some (.p (Fe.e ⟨n,k,v⟩),s8.B.hp):=by
  intro b1 b2 b3 b4 b5 e1 e2 e3 e4 e5;have hc:k=0∨k=1∨k=2∨k=3∨k=4∨k=5:=by omega
  rcases hc with rfl|rfl|rfl|rfl|rfl|rfl
  ·have hf:iG 0 s5=false:=rfl;rw[hf]at h6;simp only[Bool.not_false,cond_true]at h6;subst h6;rw[show eqI 0 ↑(0:Nat)=true from rfl,aR];simp only[aa (cQ (m:=m) s5 13 (by omega)),bc,aM,fD];exact q2
  ·exact q1 b1 e1
  ·exact q1 b2 e2
  ·exact q1 b3 e3
  ·exact q1 b4 e4
  ·exact q1 b5 e5
 simp only[aa (fy h1 (by omega:63≤m)),bc,aM,fD,aa (uX h2 (by omega:63≤m)),aJ,pJ,aa (fy h3 (by omega:63≤m)),aa (A5 h4 (by omega:80≤m)),aS,aa (fy h5 (by omega:63≤m)),aa (his _),aq,aa hp,xa,show(s5.peek 0).r.Kind=(s5.peek 0).k from rfl];cases c1:s5.is [45]<;>cases c2:s5.is [116,114,117,101]<;>simp only[aR,aQ]<;>(refine ij _ _ _ _ _ ?_ ?_ rfl rfl rfl<;>simp only[c1,c2,Bool.true_or,Bool.false_or])
def PS.M (s:PS)(mn:List Nat)(mr:Int)(l:List Da):y9:=⟨s.tk.map Tk.e,s.ps,s.en,s.aT,s.er,s.ne,s.tt,s.nd.map No.e,mn,l.length,mr,l⟩
def PS.P (s:PS)(mn:List Nat)(mr:Int)(l:List Da):Rh:=⟨s.tk.map Tk.e,s.ps,s.en,s.aT,s.er,s.ne,s.tt,s.nd.map No.e,mn,l.length,mr,l⟩
def PS.Q (s:PS)(mn:List Nat)(mr:Int)(l:List Da):Rz:=⟨s.tk.map Tk.e,s.ps,s.en,s.aT,s.er,s.ne,s.tt,s.nd.map No.e,mn,l.length,mr,l⟩
theorem ZC (c:y9)(K:y9→R):D6 c.hp K=K c:=rfl
theorem ZA (c:Rz)(K:Rz→R):tT c.hp K=K c:=rfl
theorem F6 {m:Nat}(s:PS)(hz:s.sz=true)(hm:65≤m):evFn lay0.tab m 105 [.box 0 0] s.Pv.hp=some (.p (.bool (GS s)),s.Pv.hp):=by
 replace hm:=aO hm;obtain⟨m,rfl,hm⟩:=hm;apply GG m s.Pv;unfold pc GS;have hp:=iW (m:=m) s 0 (by decide) hz (by omega);simp only[show((0:Nat):Int)=0 from rfl]at hp;have hp':evFn lay0.tab m 73 [.box 0 0,.p (.int .i64 0)] (bD.mk s.Pv.tk s.Pv.ps s.Pv.en s.Pv.aT s.Pv.er s.Pv.ne s.Pv.tt s.Pv.nd).hp=some (.p (s.peek 0).e,s.B.hp):=hp;simp only[aa hp',aJ,fD,xa,show(s.peek 0).r.Kind=(s.peek 0).k from rfl];rfl
theorem F7 {m:Nat}{s t:PS}{l l':List Pa}(mn:List Nat)(mr:Int)(h:snoc p9 l s=some (l',t))(hm:90≤m):
  evFn lay0.tab m 106 [.box 0 0,.box 2 0] (s.P mn mr (l.map Pa.e)).hp=some (.tup [],(t.Q mn mr (l'.map Pa.e)).hp):=by
 replace hm:=aO hm;obtain⟨m,rfl,hm⟩:=hm;obtain⟨x,h1,hl,rfl⟩:=cg h;obtain⟨n,s1,h2,h1⟩:=ae h1;obtain⟨_,s2,h3,h1⟩:=ae h1;obtain⟨k,s3,h4,h1⟩:=ae h1;obtain⟨rfl,rfl⟩:=aF h1;apply GH m (s.P mn mr (l.map Pa.e));unfold pd;have hn:evFn lay0.tab m 75 [.box 0 0] (bD.mk (s.P mn mr (l.map Pa.e)).tk (s.P mn mr (l.map Pa.e)).ps (s.P mn mr (l.map Pa.e)).en (s.P mn mr (l.map Pa.e)).aT (s.P mn mr (l.map Pa.e)).er (s.P mn mr (l.map Pa.e)).ne (s.P mn mr (l.map Pa.e)).tt (s.P mn mr (l.map Pa.e)).nd).hp=some (.p (.str n),s1.B.hp):=uX h2 (by omega);simp only[aa hn,aJ,pJ,fD,aa (fy h3 (by omega:63≤m)),bc,aM,aa (A5 h4 (by omega:80≤m)),aS];have e1:Nat.beq (s.P mn mr (l.map Pa.e)).mp (List.length (s.P mn mr (l.map Pa.e)).pl)=true:=Nat.beq_refl _;rw[e1,aR,dK (show List.length (s.P mn mr (l.map Pa.e)).pl+List.length [Da.agg [Da.str n,Da.int .i64 k]]<1000000001 by show(l.map Pa.e).length+1<_;rw[lθ];omega) (by decide),aR];have e2:(s.P mn mr (l.map Pa.e)).pl++[Da.agg [Da.str n,Da.int .i64 k]]=(l++[(⟨n,k⟩:Pa)]).map Pa.e:=by rw[List.map_append];rfl
 rw[e2];rfl
def Q_elM (cc:ag)(mn:LN)(mr:Int)(n12:Nat)(l13:LD)(u:bD)(k0:Int×Int×Bool×bD×LN×Nat×Int×LD→R)(i6 i7:Int)(Y:eu→R):R:=
 cc 106 [(.box 0 0),(.box 2 0)] (Rh.mk u.tk u.ps u.en u.aT u.er u.ne u.tt u.nd mn n12 mr l13).hp fun d28 o29=>aZ d28 fun r30=>aB r30<|tT o29 fun u31=>
  cc 100 [(.box 0 0),(.p (.str [44]))] (bD.mk u31.tk u31.ps u31.en u31.aT u31.er u31.ne u31.tt u31.nd).hp fun d32 o33=>dP d32 fun x34=>aI x34 fun b35=>aN o33 fun u36=>
  iL (!b35) (k0 (i6,i7,!b35,u36,u31.mn,u31.mp,u31.mr,u31.pl)) (Y (i6,aj .i64 (i7+1),u36,u31.mn,u31.mp,u31.mr,u31.pl))
theorem Pl {m:Nat}(hm:100≤m){s1 s2:PS}{l l1:List Pa}(h2:snoc p9 l s1=some (l1,s2))(hz2:s2.sz=true)(mn:List Nat)(mr:Int)(n:Nat)(k0:(Int×Int×Bool×bD×LN×Nat×Int×LD)→R)(Y:eu→R):
  Q_elM (bv lay0.tab m) mn mr (l.map Pa.e).length (l.map Pa.e) s1.B k0 4 n Y=iL (!s2.is [44]) (k0 (4,(n:Int),!s2.is [44],(bif s2.is [44]then s2.up else s2).B,mn,(l1.map Pa.e).length,mr,l1.map Pa.e)) (Y (4,aj .i64 ((n:Int)+1),(bif s2.is [44]then s2.up else s2).B,mn,(l1.map Pa.e).length,mr,l1.map Pa.e)):=by
 unfold Q_elM;have hel:evFn lay0.tab m 106 [.box 0 0,.box 2 0] (Rh.mk s1.B.tk s1.B.ps s1.B.en s1.B.aT s1.B.er s1.B.ne s1.B.tt s1.B.nd mn (l.map Pa.e).length mr (l.map Pa.e)).hp=some (.tup [],(s2.Q mn mr (l1.map Pa.e)).hp):=F7 mn mr h2 (by omega);simp only[aa hel,bc,aM,ZA];have hac:evFn lay0.tab m 100 [.box 0 0,.p (.str [44])] (bD.mk (s2.Q mn mr (l1.map Pa.e)).tk (s2.Q mn mr (l1.map Pa.e)).ps (s2.Q mn mr (l1.map Pa.e)).en (s2.Q mn mr (l1.map Pa.e)).aT (s2.Q mn mr (l1.map Pa.e)).er (s2.Q mn mr (l1.map Pa.e)).ne (s2.Q mn mr (l1.map Pa.e)).tt (s2.Q mn mr (l1.map Pa.e)).nd).hp=some (.p (.bool (s2.is [44])),(bif s2.is [44]then s2.up else s2).B.hp):=eq (m:=m) s2 _ hz2 (by omega);simp only[aa hac,aJ,aq,fD];rfl
theorem Eg {m:Nat}(hm:100≤m)(mn:List Nat)(mr:Int):∀(q':Nat) (s t:PS) (n:Nat) (l l':List Pa),j9 GS (snoc p9) 4 q' n l s=some (l',t)→n+q'<1000000→∀Q,q'≤Q→
  L_yelementsM_1 (bv lay0.tab m) m (fun(i58,i59,b60,u61,s62,n63,i64,l65)=>some ((.tup []),({u61 with mn:=s62,mp:=n63,mr:=i64,pl:=l65}:y9).hp)) (fun(i58,i59,b60,u61,s62,n63,i64,l65)=>some ((.tup []),({u61 with mn:=s62,mp:=n63,mr:=i64,pl:=l65}:y9).hp)) Q (4,(n:Int),s.B,mn,(l.map Pa.e).length,mr,l.map Pa.e)=some (.tup [],(t.M mn mr (l'.map Pa.e)).hp)
 |0,s,t,n,l,l',h,hn,Q,hQ=>by cases h
 |q'+1,s,t,n,l,l',h,hn,Q,hQ=>by
  obtain⟨Q,rfl⟩:∃j,Q=j+1:=⟨Q - 1,by omega⟩
  rw[uG];unfold j9 at h;simp only[fX,aa (mA (m:=m) s (by omega)),aJ,aq,fD];rcases bx h with⟨hk,h⟩|⟨hk,h⟩
  ·obtain⟨_,s1,h1,h⟩:=ae h;obtain⟨hz,h1⟩:=bb h1;injection h1 with _ h1;obtain⟨l1,s2,h2,h⟩:=ae h;obtain⟨hz2,h⟩:=aH h;have hb:=(show evFn lay0.tab m 105 [.box 0 0] (vd.mk s.B.tk s.B.ps s.B.en s.B.aT s.B.er s.B.ne s.B.tt s.B.nd).hp=some (.p (.bool (GS s)),s.Pv.hp)from F6 (m:=m) s hz (by omega))
   have ij:∀(X:R),X=Q_elM (bv lay0.tab m) mn mr (l.map Pa.e).length (l.map Pa.e) s1.B (fun(i58,i59,b60,u61,s62,n63,i64,l65)=>some ((.tup []),({u61 with mn:=s62,mp:=n63,mr:=i64,pl:=l65}:y9).hp)) 4 n (L_yelementsM_1 (bv lay0.tab m) m (fun(i58,i59,b60,u61,s62,n63,i64,l65)=>some ((.tup []),({u61 with mn:=s62,mp:=n63,mr:=i64,pl:=l65}:y9).hp)) (fun(i58,i59,b60,u61,s62,n63,i64,l65)=>some ((.tup []),({u61 with mn:=s62,mp:=n63,mr:=i64,pl:=l65}:y9).hp)) Q)→X=some (.tup [],(t.M mn mr (l'.map Pa.e)).hp):=by
    intro X hX;rw[hX,Pl hm h2 hz2];rcases h with⟨hc,h⟩|⟨hc,h⟩
    ·obtain⟨_,s3,h3,h⟩:=ae h;obtain⟨-,rfl⟩:=bJ h3;rw[hc,Bool.not_true,aQ,cond_true,wS (show n<fA by unfold fA;omega)];exact Eg hm mn mr q' s2.up t (n+1) l1 l' h (by omega) Q (by omega)
    ·obtain⟨rfl,rfl⟩:=aF h;rw[hc];rfl
   apply ij;rw[hk,aR];simp only[aa hb,aJ,aq,YM];have f13:evFn lay0.tab m 44 [.box 0 0,.p (.int .i64 13)] (bD.mk s.Pv.tk s.Pv.ps s.Pv.en s.Pv.aT s.Pv.er s.Pv.ne s.Pv.tt s.Pv.nd).hp=some (.tup [],(s.fail 13).B.hp):=cQ (m:=m) s 13 (by omega);have f5:evFn lay0.tab m 44 [.box 0 0,.p (.int .i64 5)] (bD.mk s.Pv.tk s.Pv.ps s.Pv.en s.Pv.aT s.Pv.er s.Pv.ne s.Pv.tt s.Pv.nd).hp=some (.tup [],(s.fail 5).B.hp):=cQ (m:=m) s 5 (by omega);simp only[aa f13,aa f5,bc,aM,fD,show eqI (n:Int) 4=Nat.beq n 4 from rfl];rw[←h1];cases GS s with
   |false=>rfl
   |true=>cases Nat.beq n 4<;>rfl
  ·obtain⟨rfl,rfl⟩:=aF h;rw[hk];rfl
theorem A8 {m q:Nat}(mn:List Nat)(mr:Int)(hm1:110≤m)(hq:q+1≤m)(hq':q<1000000 - 10){s t:PS}{l l':List Pa}(h:B2 GS (snoc p9) 4 q l s=some (l',t)):
  evFn lay0.tab m 104 [.box 0 0,.p (.int .i64 4),.fn 105 [.box 1 0],.fn 106 [.box 1 0,.box 2 0]] (s.M mn mr (l.map Pa.e)).hp=some (.tup [],(t.M mn mr (l'.map Pa.e)).hp):=by
 obtain⟨m,rfl,-⟩:=aO (show 0+1≤m by omega);apply BD m (s.M mn mr (l.map Pa.e)) 4;unfold lj;obtain⟨hz,h⟩:=aH h;have e1:evFn lay0.tab m 43 [.box 0 0,.p (.str [41])] (bD.mk (s.M mn mr (l.map Pa.e)).tk (s.M mn mr (l.map Pa.e)).ps (s.M mn mr (l.map Pa.e)).en (s.M mn mr (l.map Pa.e)).aT (s.M mn mr (l.map Pa.e)).er (s.M mn mr (l.map Pa.e)).ne (s.M mn mr (l.map Pa.e)).tt (s.M mn mr (l.map Pa.e)).nd).hp=some (.p (.bool (s.is [41])),s.B.hp):=lb (m:=m) s _ hz (by omega);simp only[aa e1,aJ,aq,fD];rcases h with⟨hk,h⟩|⟨hk,h⟩
 ·obtain⟨rfl,rfl⟩:=aF h;rw[hk];rfl
 ·rw[hk,aQ];exact Eg (by omega) mn mr q s t 0 l l' h (by omega) m (by omega)
theorem JT {m f q:Nat}(hm:q+320+17*f≤m)(hm1:10020≤m)(hq':q<1000000 - 10){s t:PS}{x:Me}(h:yf f q s=some (x,t)):evFn lay0.tab m 77 [.box 0 0] s.B.hp=some (.p x.e,t.B.hp):=by
 obtain⟨m,rfl,-⟩:=aO (show 0+1≤m by omega);apply Kb m s.B;unfold se;obtain⟨_,s1,h1,h⟩:=ae h;obtain⟨n,s2,h2,h⟩:=ae h;obtain⟨_,s3,h3,h⟩:=ae h;obtain⟨ps,s4,h4,h⟩:=ae h;obtain⟨_,s5,h5,h⟩:=ae h;obtain⟨k,s6,h6,h⟩:=ae h;obtain⟨ns,s7,h7,h⟩:=ae h;obtain⟨rfl,rfl⟩:=aF h;have he:evFn lay0.tab m 104 [.box 0 0,.p (.int .i64 4),.fn 105 [.box 1 0],.fn 106 [.box 1 0,.box 2 0]] (y9.mk s3.B.tk s3.B.ps s3.B.en s3.B.aT s3.B.er s3.B.ne s3.B.tt s3.B.nd n 0 0 []).hp=some (.tup [],(s4.M n 0 (ps.map Pa.e)).hp):=A8 (m:=m) n 0 (by omega) (by omega) hq' h4;have hx:evFn lay0.tab m 74 [.box 0 0,.p (.str [41])] (bD.mk (s4.M n 0 (ps.map Pa.e)).tk (s4.M n 0 (ps.map Pa.e)).ps (s4.M n 0 (ps.map Pa.e)).en (s4.M n 0 (ps.map Pa.e)).aT (s4.M n 0 (ps.map Pa.e)).er (s4.M n 0 (ps.map Pa.e)).ne (s4.M n 0 (ps.map Pa.e)).tt (s4.M n 0 (ps.map Pa.e)).nd).hp=some (.tup [],s5.B.hp):=fy h5 (by omega);have hbody:∀(K:R→Prop),∃u a,kj pLim (mm (ku q f 0) (Ku q f) q) q {s6 with nd:=[],ne:=0}=some (a,u)∧ns=u.nd∧s7={u with tt:=aj .i64 (u.tt+(u.nd.length:Int))}:=by
  intro K;unfold Fo at h7;cases hp:kj pLim (mm (ku q f 0) (Ku q f) q) q {s6 with nd:=[],ne:=0}with
  |none=>rw[hp]at h7;cases h7
  |some r=>
   rw[hp]at h7;injection h7 with h7;injection h7 with h8 h9;exact⟨r.2,r.1,rfl,h8.symm,h9.symm⟩
 obtain⟨u,a,hb,rfl,rfl⟩:=hbody fun _=>True
 have hB:=R5 (m:=m) (by omega) (by omega) (by omega) hb;have ij:∀k:Int,some ((.p (.agg [(.str (s4.M n 0 (ps.map Pa.e)).mn),(.slice 2 (List.take (s4.M n 0 (ps.map Pa.e)).mp (List.drop 0 (s4.M n 0 (ps.map Pa.e)).pl))),(.int .i64 k),(.slice 8 (List.take u.A.nd (List.drop 0 u.A.no)))])),(bD.mk u.A.tk u.A.ps u.A.en u.A.aT u.A.er u.A.ne (aj .i64 (u.A.tt+ ↑ (List.length (List.take u.A.nd (List.drop 0 u.A.no))))) (List.take u.A.nd (List.drop 0 u.A.no))).hp)=(some (.p (Me.e ⟨n,ps,k,u.nd⟩),PS.B {u with tt:=aj .i64 (u.tt+(u.nd.length:Int))} |>.hp):R):=by
  intro k;have e1:List.take (s4.M n 0 (ps.map Pa.e)).mp (List.drop 0 (s4.M n 0 (ps.map Pa.e)).pl)=ps.map Pa.e:=by
   show List.take (ps.map Pa.e).length (List.drop 0 (ps.map Pa.e))=_;rw[List.drop_zero,List.take_length]
  have e2:List.take u.A.nd (List.drop 0 u.A.no)=u.nd.map No.e:=by
   show List.take u.nd.length (List.drop 0 (u.nd.map No.e))=_;rw[List.drop_zero,mσ (by rw[lθ];omega)]
  rw[e1,e2,lθ];rfl
 obtain⟨hz,h6⟩:=aH h6;simp only[aa (fy h1 (by omega:63≤m)),bc,aM,fD,aa (uX h2 (by omega:63≤m)),aJ,pJ,aa (fy h3 (by omega:63≤m)),aa he,ZC,aa hx,aa (eq (m:=m) s5 _ hz (by omega)),aq];rcases h6 with⟨hk,h6⟩|⟨hk,h6⟩
 ·obtain⟨_,s8,h8,h6⟩:=ae h6;obtain⟨-,rfl⟩:=bJ h8;simp only[hk,aR,cond_true,aa (A5 h6 (by omega:80≤m)),aJ,aS,fD,aa hB,b6];exact ij k
 ·obtain⟨rfl,rfl⟩:=aF h6;simp only[hk,aQ,cond_false,aa hB,aJ,aS,b6];exact ij 0
end
end Go.Ab
end
section
namespace Go.Ab
open Go
set_option maxRecDepth 100000
noncomputable section
theorem t6 {m q:Nat}(hm:130≤m)(hq:q+3≤m)(hq':q<1000000){s t:PS}{l l':List Fe}(h:snoc (p8 q) l s=some (l',t))(Y:ja→R)(x y:LN):
  Q_yactor_1 (bv lay0.tab m) s.B (l.map Fe.e).length (l.map Fe.e) Y x y=Y (t.B,x,y,(l'.map Fe.e).length,l'.map Fe.e):=by
 obtain⟨f,h1,hl,rfl⟩:=cg h;unfold Q_yactor_1;simp only[aa (Mx hm hq hq' h1),aJ,Zi,fD,Nat.beq_refl,show ∀x:Nat,Nat.beq x x=true from fun x=>Nat.beq_refl x,aR];rw[dK (by rw[lθ];show l.length+1<_;omega) (by decide),aR,List.map_append];rfl
theorem xQ {m f q:Nat}(hm:q+320+17*f≤m)(hm1:10020≤m)(hq':q<1000000 - 10){s t:PS}{l l':List Me}(h:snoc (yf f q) l s=some (l',t))(Y:jb→R)(x y:LN)(n:Nat)(r:LD):
  Q_yactor_2 (bv lay0.tab m) s.B (l.map Me.e).length (l.map Me.e) Y x y n r=Y (t.B,x,y,n,(l'.map Me.e).length,r,l'.map Me.e):=by
 obtain⟨g,h1,hl,rfl⟩:=cg h;unfold Q_yactor_2;simp only[aa (JT hm hm1 hq' h1),aJ,Zj,fD,Nat.beq_refl,show ∀x:Nat,Nat.beq x x=true from fun x=>Nat.beq_refl x,aR];rw[dK (by rw[lθ];show l.length+1<_;omega) (by decide),aR,List.map_append];rfl
theorem tZ {m q:Nat}(hm:130≤m)(hq:q+3≤m)(hq':q<1000000)(x y:LN)(k0:Bool×bD×LN×LN×Nat×LD→R):∀(q':Nat) (s t:PS) (l l':List Fe),eG [115,116,97,116,101] 8 (p8 q) q' l s=some (l',t)→∀Q,q'≤Q→
  L_yactor_1 (bv lay0.tab m) m k0 Q (s.B,x,y,(l.map Fe.e).length,l.map Fe.e)=k0 (false,t.B,x,y,(l'.map Fe.e).length,l'.map Fe.e)
 |0,s,t,l,l',h,Q,hQ=>by cases h
 |q'+1,s,t,l,l',h,Q,hQ=>by
  obtain⟨Q,rfl⟩:∃j,Q=j+1:=⟨Q - 1,by omega⟩
  rw[Dx];unfold eG at h;obtain⟨hz,h⟩:=aH h;simp only[lF,aa (lb (m:=m) s _ hz (by omega)),aJ,aq,fD];rcases h with⟨hk,h⟩|⟨hk,h⟩
  ·obtain⟨_,s1,h1,h⟩:=ae h;obtain⟨-,h1⟩:=bb h1;injection h1 with _ h1;obtain⟨l1,s2,h2,h⟩:=ae h;have e8:eqI (((l.map Fe.e).length:Nat):Int) 8=Nat.beq l.length 8:=by rw[lθ];rfl
   have ih:=tZ hm hq hq' x y k0 q' s2 t l1 l' h Q (by omega);rw[hk,aR,e8];cases hb:Nat.beq l.length 8 with
   |true=>
    rw[hb,cond_true]at h1;subst h1;simp only[aR,aa (cQ (m:=m) s 5 (by omega)),bc,aM,fD];rw[t6 hm hq hq' h2];exact ih
   |false=>
    rw[hb,cond_false]at h1;subst h1;rw[aQ,t6 hm hq hq' h2];exact ih
  ·obtain⟨rfl,rfl⟩:=aF h;rw[hk];rfl
theorem xP {m f q:Nat}(hm:q+320+17*f≤m)(hm1:10020≤m)(hq':q<1000000 - 10)(x y:LN)(n:Nat)(r:LD)(k0:Bool×bD×LN×LN×Nat×Nat×LD×LD→R):∀(q':Nat) (s t:PS) (l l':List Me),eG [109,101,116,104,111,100] 16 (yf f q) q' l s=some (l',t)→∀Q,q'≤Q→
  L_yactor_2 (bv lay0.tab m) m k0 Q (s.B,x,y,n,(l.map Me.e).length,r,l.map Me.e)=k0 (false,t.B,x,y,n,(l'.map Me.e).length,r,l'.map Me.e)
 |0,s,t,l,l',h,Q,hQ=>by cases h
 |q'+1,s,t,l,l',h,Q,hQ=>by
  obtain⟨Q,rfl⟩:∃j,Q=j+1:=⟨Q - 1,by omega⟩
  rw[Dy];unfold eG at h;obtain⟨hz,h⟩:=aH h;simp only[lG,aa (lb (m:=m) s _ hz (by omega)),aJ,aq,fD];rcases h with⟨hk,h⟩|⟨hk,h⟩
  ·obtain⟨_,s1,h1,h⟩:=ae h;obtain⟨-,h1⟩:=bb h1;injection h1 with _ h1;obtain⟨l1,s2,h2,h⟩:=ae h;have e8:eqI (((l.map Me.e).length:Nat):Int) 16=Nat.beq l.length 16:=by rw[lθ];rfl
   have ih:=xP hm hm1 hq' x y n r k0 q' s2 t l1 l' h Q (by omega);rw[hk,aR,e8];cases hb:Nat.beq l.length 16 with
   |true=>
    rw[hb,cond_true]at h1;subst h1;simp only[aR,aa (cQ (m:=m) s 5 (by omega)),bc,aM,fD];rw[xQ hm hm1 hq' h2];exact ih
   |false=>
    rw[hb,cond_false]at h1;subst h1;rw[aQ,xQ hm hm1 hq' h2];exact ih
  ·obtain⟨rfl,rfl⟩:=aF h;rw[hk];rfl
theorem Mu {m f q:Nat}(hm:q+321+17*f≤m)(hm1:10021≤m)(hq':q<1000000 - 10){s t:PS}{x:Ac}(h:ju f q s=some (x,t)):evFn lay0.tab m 45 [.box 0 0] s.B.hp=some (.p x.e,t.B.hp):=by
 obtain⟨m,rfl,-⟩:=aO (show 0+1≤m by omega);apply M0 m s.B;unfold vT;obtain⟨_,s1,h1,h⟩:=ae h;obtain⟨n,s2,h2,h⟩:=ae h;obtain⟨_,s3,h3,h⟩:=ae h;obtain⟨fs,s4,h4,h⟩:=ae h;obtain⟨ms,s5,h5,h⟩:=ae h;obtain⟨_,s6,h6,h⟩:=ae h;obtain⟨rfl,rfl⟩:=aF h;simp only[aa (fy h1 (by omega:63≤m)),bc,aM,fD,aa (uX h2 (by omega:63≤m)),aJ,pJ,aa (fy h3 (by omega:63≤m))];have l1:=fun k0=>tZ (m:=m) (by omega) (by omega) (by omega) [] n k0 q s3 s4 [] fs h4 m (by omega)
 simp only[List.map_nil,List.length_nil]at l1;rw[l1];have l2:=fun k0=>xP (m:=m) (by omega) (by omega) hq' [] n (fs.map Fe.e).length (fs.map Fe.e) k0 q s4 s5 [] ms h5 m (by omega)
 simp only[List.map_nil,List.length_nil]at l2;simp only[];rw[l2];simp only[aa (fy h6 (by omega:63≤m)),bc,aM,fD,List.drop_zero,List.take_length];rfl
theorem Ih {m f q:Nat}(hm:q+321+17*f≤m)(hm1:10021≤m)(hq':q<1000000 - 10){s t:PS}{l l':List Ac}(h:snoc (ju f q) l s=some (l',t))(Y:iZ→R)(r:LD):
  Q_yParse_1 (bv lay0.tab m) s.B (l.map Ac.e).length (l.map Ac.e) Y r=Y (r,(l'.map Ac.e).length,l'.map Ac.e,t.B):=by
 obtain⟨g,h1,hl,rfl⟩:=cg h;unfold Q_yParse_1;simp only[aa (Mu hm hm1 hq' h1),aJ,YG];change iL (Nat.beq (l.map Ac.e).length (l.map Ac.e).length) (iL (eW ((l.map Ac.e).length+List.length [Ac.e g]) 64) (Y (r,((l.map Ac.e)++[Ac.e g]).length,(l.map Ac.e)++[Ac.e g],t.B)) none) none=_;rw[show Nat.beq (l.map Ac.e).length (l.map Ac.e).length=true from Nat.beq_refl _,aR,dK (by rw[lθ];show l.length+1<_;omega) (by decide),aR,List.map_append];rfl
theorem yT {m f q:Nat}(hm:q+321+17*f≤m)(hm1:10021≤m)(hq':q<1000000 - 10)(tk:List Tk):∀(q':Nat) (s t:PS) (l l':List Ac),cX tk.length f q q' l s=some (l',t)→∀Q,q'≤Q→
  ∃b1:Bool,∀k0:LD×Bool×Nat×LD×bD→R,lx (bv lay0.tab m) m k0 Q (tk.map Tk.e,(l.map Ac.e).length,l.map Ac.e,s.B)=k0 (tk.map Tk.e,b1,(l'.map Ac.e).length,l'.map Ac.e,t.B)
 |0,s,t,l,l',h,Q,hQ=>by cases h
 |q'+1,s,t,l,l',h,Q,hQ=>by
  obtain⟨Q,rfl⟩:∃j,Q=j+1:=⟨Q - 1,by omega⟩
  unfold cX at h;rcases bx h with⟨hk,h⟩|⟨hk,h⟩
  ·obtain⟨hz,h⟩:=aH h;have elt:bo s.B.ps (((tk.map Tk.e).length:Nat):Int)=decide (s.ps<tk.length):=by
    show bo (s.ps:Int) _=_;rw[oJ,lθ,decide_eq_decide];omega
   rcases h with⟨hc,h⟩|⟨hc,h⟩
   ·obtain⟨_,s1,h1,h⟩:=ae h;obtain⟨-,h1⟩:=bb h1;injection h1 with _ h1;obtain⟨l1,s2,h2,h⟩:=ae h;obtain⟨b1,ih⟩:=yT hm hm1 hq' tk q' s2 t l1 l' h Q (by omega);refine⟨b1,fun k0=>?_⟩
    rw[mQ];have e8:eqI (((l.map Ac.e).length:Nat):Int) 8=Nat.beq l.length 8:=by rw[lθ];rfl
    simp only[gz,aa (mA (m:=m) s (by omega)),aJ,aq,fD,hk,aR,elt,hc,aa (lb (m:=m) s _ hz (by omega)),e8,aa (cQ (m:=m) s 5 (by omega)),bc,aM];have st:=fun Y=>Ih hm hm1 hq' h2 Y (tk.map Tk.e)
    rw[←h1]at st;cases c1:s.is [97,99,116,111,114]with
    |true=>
     cases c2:Nat.beq l.length 8 with
     |true=>
      rw[c1,c2]at st;simp only[Bool.and_self,cond_true]at st;rw[aR,aR,st];exact ih k0
     |false=>
      rw[c1,c2]at st;simp only[Bool.and_false,cond_false]at st;rw[aR,aQ,st];exact ih k0
    |false=>
     rw[c1]at st;simp only[Bool.false_and,cond_false]at st;rw[aQ,st];exact ih k0
   ·obtain⟨rfl,rfl⟩:=aF h;refine⟨false,fun k0=>?_⟩
    rw[mQ];simp only[gz,aa (mA (m:=m) s (by omega)),aJ,aq,fD,hk,aR,elt,hc,aQ]
  ·obtain⟨rfl,rfl⟩:=aF h;refine⟨false,fun k0=>?_⟩
   rw[mQ];simp only[gz,aa (mA (m:=m) s (by omega)),aJ,aq,fD,hk,aQ]
def QI (r:List Ac×Int×Int):D:= .tup [.p (.agg [.slice 3 (r.1.map Ac.e)]),.p (.int .i64 r.2.1),.p (.int .i64 r.2.2)]
theorem Mo {m f q:Nat}(hm:q+322+17*f≤m)(hm1:10022≤m)(hq':q<1000000 - 10){tk:List Tk}{en:Int}{r:List Ac×Int×Int}(h:lV tk en f q=some r):
  evFn lay0.tab m 14 [.p (.slice 4 (tk.map Tk.e)),.p (.int .i64 en)] []=some (QI r,[]):=by
 obtain⟨m,rfl,-⟩:=aO (show 0+1≤m by omega);apply MU m (tk.map Tk.e) en;unfold vN;unfold lV at h;cases hg:cX tk.length f q q [] ⟨tk,0,en,0,0,0,0,[]⟩with
 |none=>rw[hg]at h;cases h
 |some r0=>
  obtain⟨l,s⟩:=r0;rw[hg]at h;injection h with h;obtain⟨b1,e⟩:=yT (m:=m) (by omega) (by omega) hq' tk q _ s [] l hg m (by omega);refine(e _).trans ?_;simp only[aa (mA (m:=m) s (by omega)),aJ,aq,fD];subst h;cases hk:s.ok with
  |false=>rfl
  |true=>
   simp only[Bool.not_true,aQ,cond_false,List.drop_zero,List.take_length];rfl
def ma (src:List Nat)(f q:Nat):Option (List Ac×Int×Int):=bif !eqI (eI src).2.2 0 then some ([],(eI src).2.1,(eI src).2.2)else lV (eI src).1 (src.length:Int) f q
theorem zG {m f q:Nat}(hm:q+323+17*f≤m)(hm1:10023≤m)(hq':q<1000000 - 10){src:List Nat}(hb:By src)(hl:src.length<1000000)(hm2:src.length+60≤m){r:List Ac×Int×Int}(h:ma src f q=some r):
  evFn lay0.tab m 11 [.p (.str src)] []=some (QI r,[]):=by
 obtain⟨m,rfl,-⟩:=aO (show 0+1≤m by omega);apply J6 m src;unfold rZ;unfold ma at h;simp only[aa (zJ (m:=m) src hb hl (by omega)),JK,bc,jM,aJ,qM,aS,aM];cases he:eqI (eI src).2.2 0 with
 |false=>
  rw[he,Bool.not_false,cond_true]at h;injection h with h;subst h;rfl
 |true=>
  rw[he,Bool.not_true,cond_false]at h;simp only[Bool.not_true,aQ,aa (Mo (m:=m) (by omega) (by omega) hq' h)];rfl
end
end Go.Ab
end
section
namespace Go.Ab
open Go
set_option maxRecDepth 100000
noncomputable section
structure Iv (s:PS):Prop where
 sz:s.sz=true
 len:s.tk.length≤6000
 nd:s.nd.length≤s.ps
 wf:∀x∈s.nd,lw s.nd.length x.kids∧x.kids.length<10000
structure Ad (s t:PS):Prop where
 tk:t.tk=s.tk
 en:t.en=s.en
 ps:s.ps≤t.ps
 ok:t.ok=true→s.ok=true
 nd:s.nd.length≤t.nd.length
 de:t.nd.length+s.ps≤s.nd.length+t.ps
theorem Ad.refl (s:PS):Ad s s:=⟨rfl,rfl,Nat.le_refl _,id,Nat.le_refl _,Nat.le_refl _⟩
theorem Ad.trans {a b c:PS}(h:Ad a b)(g:Ad b c):Ad a c:=⟨g.tk.trans h.tk,g.en.trans h.en,mρ h.ps g.ps,fun k=>h.ok (g.ok k),mρ h.nd g.nd,by have:=h.de;have:=g.de;omega⟩
theorem Iv.le {s:PS}(h:Iv s):s.ps≤s.tk.length:=(oq h.sz).1
def Tt {α:Type}(s0 s:PS)(p:PM α)(Q:α→PS→Prop):Prop:=∃a t,p s=some (a,t)∧Iv t∧Ad s0 t∧Q a t
theorem Tt.bnd {α β:Type}{s0 s:PS}{p:PM α}{f:α→PM β}{Q:α→PS→Prop}{R:β→PS→Prop}(h:Tt s0 s p Q)(g:∀a t,Iv t→Ad s0 t→Q a t→Tt s0 t (f a) R):Tt s0 s (p.bnd f) R:=by
 obtain⟨a,t,h1,h2,h3,h4⟩:=h;obtain⟨b,u,g1,g2,g3,g4⟩:=g a t h2 h3 h4;exact⟨b,u,by simp only[PM.bnd,h1,g1],g2,g3,g4⟩
theorem Tt.of {α:Type}{s0 s:PS}{p:PM α}{Q R:α→PS→Prop}(a:Ad s0 s)(h:Tt s s p Q)(g:∀a t,Ad s t→Q a t→R a t):Tt s0 s p R:=by
 obtain⟨x,t,h1,h2,h3,h4⟩:=h;exact⟨x,t,h1,h2,a.trans h3,g x t h3 h4⟩
theorem Tt.imp {α:Type}{s0 s:PS}{p:PM α}{Q R:α→PS→Prop}(h:Tt s0 s p Q)(g:∀a t,Iv t→Ad s0 t→Q a t→R a t):Tt s0 s p R:=by
 obtain⟨x,t,h1,h2,h3,h4⟩:=h;exact⟨x,t,h1,h2,h3,g x t h2 h3 h4⟩
theorem Tt.ret {α:Type}{s0 s:PS}{a:α}{Q:α→PS→Prop}(i:Iv s)(h:Ad s0 s)(q:Q a s):Tt s0 s (PM.ret a) Q:=⟨a,s,rfl,i,h,q⟩
theorem Tt.cnd {α:Type}{s0 s:PS}{c:PS→Bool}{p q:PM α}{Q:α→PS→Prop}(i:Iv s)(h:c s=true→Tt s0 s p Q)(g:c s=false→Tt s0 s q Q):Tt s0 s (cnd c p q) Q:=by
 unfold Tt Go.Ab.cnd;rw[i.sz,cond_true];cases hc:c s with
 |true=>exact h hc
 |false=>exact g hc
theorem Tt.cok {α:Type}{s0 s:PS}{p q:PM α}{Q:α→PS→Prop}(h:s.ok=true→Tt s0 s p Q)(g:s.ok=false→Tt s0 s q Q):Tt s0 s (cok p q) Q:=by
 unfold Tt Go.Ab.cok;cases hc:s.ok with
 |true=>exact h hc
 |false=>exact g hc
theorem Tt.fnO {α:Type}{s0 s:PS}{l:List (List Nat)}{p:PM α}{f:List Nat→PM α}{Q:α→PS→Prop}(i:Iv s)(h:Tt s0 s p Q)(g:∀o,s.is o=true→Tt s0 s (f o) Q):Tt s0 s (fnO l p f) Q:=by
 unfold Tt Go.Ab.fnO;rw[i.sz,cond_true];cases hc:l.find? s.is with
 |none=>exact h
 |some o=>exact g o (by have:=List.find?_some hc;simpa using this)
theorem cU (s:PS){e:Int}(he:e≠0):(s.fail e).ok=false:=by
 unfold PS.fail;cases h:s.ok with
 |false=>exact h
 |true=>exact ZG he
theorem jO (s:PS)(e:Int):(s.fail e).tk=s.tk∧(s.fail e).en=s.en∧(s.fail e).ps=s.ps∧(s.fail e).nd=s.nd∧(s.fail e).ne=s.ne∧(s.fail e).tt=s.tt:=by
 unfold PS.fail;cases s.ok<;>exact⟨rfl,rfl,rfl,rfl,rfl,rfl⟩
theorem Iv.fail {s:PS}(h:Iv s)(e:Int):Iv (s.fail e):=by
 obtain⟨h1,h2,h3,h4,-,-⟩:=jO s e;exact⟨by have:=h.sz;unfold PS.sz at this ⊢;rw[h1,h3];exact this,by rw[h1];exact h.len,by rw[h3,h4];exact h.nd,by rw[h4];exact h.wf⟩
theorem eO (s:PS){e:Int}(he:e≠0):Ad s (s.fail e):=by
 obtain⟨h1,h2,h3,h4,-,-⟩:=jO s e;exact⟨h1,h2,by omega,fun k=>(by rw[cU s he]at k;cases k),by rw[h4];exact Nat.le_refl _,by rw[h3,h4];exact Nat.le_refl _⟩
theorem Cl {s:PS}{x:List Nat}(h:s.is x=true):s.ok=true:=by
 cases hk:s.ok with
 |true=>rfl
 |false=>
  unfold PS.is PS.peek at h;rw[hk]at h;cases h
theorem Iv.up {s:PS}(h:Iv s)(hp:s.ps<s.tk.length):Iv s.up:=by
 obtain⟨h1,h2,h3⟩:=oq h.sz;refine⟨?_,h.len,by have:=h.nd;show s.nd.length≤s.ps+1;omega,h.wf⟩
 have:=h.sz;unfold PS.sz at this ⊢
 simp only[lγ,lβ]at this ⊢
 exact⟨by show s.ps+1≤s.tk.length;omega,this.2⟩
theorem qE (s:PS):Ad s s.up:=⟨rfl,rfl,Nat.le_succ _,id,Nat.le_refl _,by show s.nd.length+s.ps≤s.nd.length+(s.ps+1);omega⟩
theorem Iv.ne {s:PS}(h:Iv s)(k:Int):Iv {s with ne:=k}:=⟨h.sz,h.len,h.nd,h.wf⟩
theorem Ud {s t:PS}(h:Ad s t)(k:Int):Ad s {t with ne:=k}:=⟨h.tk,h.en,h.ps,h.ok,h.nd,h.de⟩
structure JY (s t:PS):Prop where
 inv:Iv t
 ad:Ad s t
 st:t.ok=true→t.ps=s.ps+1
 nd:t.nd=s.nd
structure Lf (s t:PS):Prop where
 ad:Ad s t
 st:t.ok=true→t.ps=s.ps+1
 nd:t.nd=s.nd
theorem PJ {s:PS}(h:Iv s)(hp:s.ps<s.tk.length):JY s s.up:=⟨h.up hp,qE s,fun _=>rfl,rfl⟩
theorem Ci {s:PS}(h:Iv s){e:Int}(he:e≠0):JY s (s.fail e):=⟨h.fail e,eO s he,fun k=>(by rw[cU s he]at k;cases k),(jO s e).2.2.2.1⟩
theorem Ch {s:PS}(h:Iv s)(x:List Nat):JY s (s.exp x):=by
 unfold PS.exp;cases hx:s.is x with
 |true=>exact PJ h (dG h.sz hx)
 |false=>exact Ci h (by decide)
theorem JY.ne {s t:PS}(h:JY s t)(k:Int):JY s {t with ne:=k}:=⟨h.inv.ne k,Ud h.ad k,h.st,h.nd⟩
theorem Ta {s:PS}(h:Iv s)(x:List Nat):JY s (s.open x):=by
 unfold PS.open PS.opn1;refine JY.ne ?_ _;cases hb:(s.is x&&eqI s.ne 24)with
 |false=>exact Ch h x
 |true=>
  rw[cond_true];have g:=Ch (h.fail 5) x;have hf:=eO s (e:=5) (by decide);exact⟨g.inv,hf.trans g.ad,fun k=>(by have:=g.ad.ok k;rw[cU s (by decide)]at this;cases this),g.nd.trans (jO s 5).2.2.2.1⟩
theorem PI {s:PS}(h:Iv s)(x:List Nat):JY s (s.close x):=JY.ne (Ch h x) _
theorem Tb {s:PS}(h:Iv s){k:Int}(hk:k≠0):JY s (s.take k).2:=by
 unfold PS.take;cases hx:eqI (s.peek 0).k k with
 |true=>
  rw[cF,lβ]at hx;exact PJ h (jS h.sz 0 (by rw[hx];exact hk))
 |false=>exact Ci h (by decide)
theorem I3:∀(l:List (List Nat)) (i:Int) {s:PS},Iv s→JY s (eX l i s).2
 |[],i,s,h=>Ci h (by decide)
 |x::r,i,s,h=>by
  unfold eX;cases hx:s.is x with
  |true=>exact PJ h (dG h.sz hx)
  |false=>exact I3 r (i+1) h
theorem Tt.lf {α:Type}{s0 s:PS}{g:PS→α×PS}(i:Iv s)(a:Ad s0 s)(h:JY s (g s).2):Tt s0 s (lf g) (fun _ t=>Lf s t):=by
 refine⟨(g s).1,(g s).2,?_,h.inv,a.trans h.ad,⟨h.ad,h.st,h.nd⟩⟩;unfold Go.Ab.lf;rw[i.sz,cond_true]
theorem Tt.up {s0 s:PS}(i:Iv s)(a:Ad s0 s)(h:s.ps<s.tk.length):Tt s0 s pUp (fun _ t=>Lf s t∧t.ps=s.ps+1):=by
 refine⟨(),s.up,?_,i.up h,a.trans (qE s),⟨qE s,fun _=>rfl,rfl⟩,rfl⟩
 unfold pUp Go.Ab.lf;rw[i.sz,cond_true]
theorem Tt.exp {s0 s:PS}(i:Iv s)(a:Ad s0 s)(x:List Nat):Tt s0 s (gi x) (fun _ t=>Lf s t):=Tt.lf i a (Ch i x)
theorem Tt.opn {s0 s:PS}(i:Iv s)(a:Ad s0 s)(x:List Nat):Tt s0 s (kL x) (fun _ t=>Lf s t):=Tt.lf i a (Ta i x)
theorem Tt.cls {s0 s:PS}(i:Iv s)(a:Ad s0 s)(x:List Nat):Tt s0 s (gM x) (fun _ t=>Lf s t):=Tt.lf i a (PI i x)
theorem Tt.take {s0 s:PS}(i:Iv s)(a:Ad s0 s){k:Int}(hk:k≠0):Tt s0 s (mo k) (fun _ t=>Lf s t):=Tt.lf i a (Tb i hk)
theorem Tt.kind {s0 s:PS}(i:Iv s)(a:Ad s0 s):Tt s0 s pKind (fun _ t=>Lf s t):=Tt.lf i a (I3 kindL 1 i)
theorem Tt.fail {s0 s:PS}(i:Iv s)(a:Ad s0 s){e:Int}(he:e≠0):Tt s0 s (rB e) (fun _ t=>Ad s t∧t.ok=false):=by
 refine⟨(),s.fail e,?_,i.fail e,a.trans (eO s he),eO s he,cU s he⟩;unfold rB Go.Ab.lf;rw[i.sz,cond_true]
theorem Tt.nam {s0 s:PS}(i:Iv s)(a:Ad s0 s):Tt s0 s pName (fun _ t=>Lf s t):=
 (Tt.take i a (by decide)).bnd fun k t i a h=>Tt.ret i a h
theorem Tt.pek {s0 s:PS}(i:Iv s)(a:Ad s0 s):Tt s0 s pPeek (fun x t=>x=s.peek 0∧t=s):=by
 refine⟨s.peek 0,s,?_,i,a,rfl,rfl⟩;unfold pPeek Go.Ab.lf;rw[i.sz,cond_true]
theorem Tt.int {s0 s:PS}(i:Iv s)(a:Ad s0 s):Tt s0 s pInt (fun _ t=>Ad s t∧(t.ok=true→s.ps<t.ps)):=by
 refine Tt.cnd i (fun hc=>?_) (fun hc=>?_)
 ·refine(Tt.up i a (dG i.sz hc)).bnd fun _ t i1 a1 h1=>?_
  refine(Tt.take i1 a1 (by decide)).bnd fun k u i2 a2 h2=>Tt.ret i2 a2 ⟨h1.1.ad.trans h2.ad,fun k=>?_⟩
  have:=h2.ad.ps;have:=h1.2;omega
 ·exact(Tt.take i a (by decide)).bnd fun k u i2 a2 h2=>Tt.ret i2 a2 ⟨h2.ad,fun k=>by have:=h2.st k;omega⟩
def Ix (a:Int)(t:PS):Prop:=t.ok=true→0≤a∧a<(t.nd.length:Int)
theorem Ix.mono {a:Int}{s t:PS}(h:Ix a s)(g:Ad s t):Ix a t:=fun k=>by have:=h (g.ok k);have:=g.nd;omega
theorem Tt.add {s0 s:PS}{x:No}(i0:Iv s0)(i:Iv s)(a:Ad s0 s)(hsl:s.ok=true→s.nd.length+s0.ps+1≤s0.nd.length+s.ps)(hk:s.ok=true→lw s.nd.length x.kids)(hl:x.kids.length<10000):
  Tt s0 s (ea x) (fun b t=>Ix b t∧t.ps=s.ps∧t.ok=s.ok∧(t.ok=true→s.nd.length<t.nd.length)):=by
 have h1:=i.nd;have h2:=i.le;have h3:=i.len;unfold Tt ea;rw[mχ (show s.nd.length<1000000 by omega),mχ (show x.kids.length<1000000 by omega),Bool.and_self,cond_true];unfold PS.add;cases hs:s.ok with
 |false=>exact⟨0,s,rfl,i,a,⟨fun k=>(by rw[hs]at k;cases k),rfl,hs,fun k=>(by rw[hs]at k;cases k)⟩⟩
 |true=>
  have hsl:=hsl hs;have hk:=hk hs;have hps:=a.ps;have hle:(s.nd++[x]).length=s.nd.length+1:=by rw[lπ,List.length_singleton]
  refine⟨(s.nd.length:Int),{s with nd:=s.nd++[x]},rfl,⟨i.sz,i.len,?_,?_⟩,⟨a.tk,a.en,a.ps,a.ok,?_,?_⟩,fun k=>?_,rfl,hs,fun k=>?_⟩
  ·show(s.nd++[x]).length≤s.ps;rw[hle];have:=a.de;have:=a.nd;have:=i0.nd;omega
  ·intro y hy;show lw (s.nd++[x]).length y.kids∧_;rw[hle];rcases mδ.1 hy with hy|hy
   ·exact⟨fun k hk=>by have:=(i.wf y hy).1 k hk;omega,(i.wf y hy).2⟩
   ·simp only[List.mem_singleton]at hy;subst hy;exact⟨fun k hk'=>by have:=hk k hk';omega,hl⟩
  ·show s0.nd.length≤(s.nd++[x]).length;rw[hle];have:=a.nd;omega
  ·show(s.nd++[x]).length+s0.ps≤s0.nd.length+s.ps;rw[hle];omega
  ·show 0≤(s.nd.length:Int)∧(s.nd.length:Int)<((s.nd++[x]).length:Int);rw[hle];omega
  ·show s.nd.length<(s.nd++[x]).length;rw[hle];omega
end
end Go.Ab
end
