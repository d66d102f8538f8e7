import Derived.Test.YtbgddkffhndjcaaGreatDoorKg1
import Derived.Test.YtbgddkffhndjcaaGreatDoorOg3
set_option linter.all false
section
namespace Go.Ab
open Go
set_option maxRecDepth 100000
noncomputable section
theorem uZ {m:Nat}{st:PM Int}(hs:dV m 122 st)(hm:100≤m)(b:Bool):∀(q':Nat) (s t:PS) (l l':List Int),fZ st q' l s=some (l',t)→∀Q,q'≤Q→
  ∃b1:Bool,∀k0:Bool×Bool×bi×LN×LN×Nat×LD→R,kR (bu lay0.tab m) m k0 Q (b,s.A,[],[],(l.map iE).length,l.map iE)=k0 (b,b1,t.A,[],[],(l'.map iE).length,l'.map iE)
 |0,s,t,l,l',h,Q,hQ=>by cases h
 |q'+1,s,t,l,l',h,Q,hQ=>by
  obtain⟨Q,rfl⟩:∃j,Q=j+1:=⟨Q - 1,by omega⟩
  unfold fZ at h;rcases bH h with⟨hk,h⟩|⟨hk,h⟩
  ·obtain⟨hz,h⟩:=aS h;rcases h with⟨hc,h⟩|⟨hc,h⟩
   ·obtain⟨rfl,rfl⟩:=aH h;refine⟨false,fun k0=>?_⟩
    rw[lZ];simp only[f9,aa (fv (m:=m) s (by omega)),aE,aw,bP,hk,aV,aa (f3 (m:=m) s _ hz (by omega)),hc,Bool.not_true,aU]
   ·obtain⟨l1,s1,h1,h⟩:=af h;obtain⟨x,h2,hl,rfl⟩:=cF h1;obtain⟨b1,ih⟩:=uZ hs hm b q' s1 t (l++[x]) l' h Q (by omega);refine⟨b1,fun k0=>?_⟩
    rw[lZ];replace ih:=ih k0;rw[List.map_append]at ih;simp only[f9,aa (fv (m:=m) s (by omega)),aE,aw,bP,hk,aV,aa (f3 (m:=m) s _ hz (by omega)),hc,Bool.not_false,aa (hs _ _ _ h2),aP,Nat.beq_refl,show ∀x:Nat,Nat.beq x x=true from fun x=>Nat.beq_refl x];rw[dy (by rw[lμ];show l.length+1<_;omega) (by decide),aV];exact ih
  ·obtain⟨rfl,rfl⟩:=aH h;refine⟨false,fun k0=>?_⟩
   rw[lZ];simp only[f9,aa (fv (m:=m) s (by omega)),aE,aw,bP,hk,aU]
theorem sd {m:Nat}{st:PM Int}(hs:dV m 122 st)(hm:100≤m)(b:Bool):∀(q':Nat) (s t:PS) (l l':List Int),fZ st q' l s=some (l',t)→∀Q,q'≤Q→
  ∃b1:Bool,∀k0:Bool×Bool×bi×LN×LN×Nat×LD→R,jf (bu lay0.tab m) m k0 Q (b,s.A,[],[],(l.map iE).length,l.map iE)=k0 (b,b1,t.A,[],[],(l'.map iE).length,l'.map iE)
 |0,s,t,l,l',h,Q,hQ=>by cases h
 |q'+1,s,t,l,l',h,Q,hQ=>by
  obtain⟨Q,rfl⟩:∃j,Q=j+1:=⟨Q - 1,by omega⟩
  unfold fZ at h;rcases bH h with⟨hk,h⟩|⟨hk,h⟩
  ·obtain⟨hz,h⟩:=aS h;rcases h with⟨hc,h⟩|⟨hc,h⟩
   ·obtain⟨rfl,rfl⟩:=aH h;refine⟨false,fun k0=>?_⟩
    rw[kT];simp only[fe,aa (fv (m:=m) s (by omega)),aE,aw,bP,hk,aV,aa (f3 (m:=m) s _ hz (by omega)),hc,Bool.not_true,aU]
   ·obtain⟨l1,s1,h1,h⟩:=af h;obtain⟨x,h2,hl,rfl⟩:=cF h1;obtain⟨b1,ih⟩:=sd hs hm b q' s1 t (l++[x]) l' h Q (by omega);refine⟨b1,fun k0=>?_⟩
    rw[kT];replace ih:=ih k0;rw[List.map_append]at ih;simp only[fe,aa (fv (m:=m) s (by omega)),aE,aw,bP,hk,aV,aa (f3 (m:=m) s _ hz (by omega)),hc,Bool.not_false,aa (hs _ _ _ h2),aP,Nat.beq_refl,show ∀x:Nat,Nat.beq x x=true from fun x=>Nat.beq_refl x];rw[dy (by rw[lμ];show l.length+1<_;omega) (by decide),aV];exact ih
  ·obtain⟨rfl,rfl⟩:=aH h;refine⟨false,fun k0=>?_⟩
   rw[kT];simp only[fe,aa (fv (m:=m) s (by omega)),aE,aw,bP,hk,aU]
theorem JH {c m q:Nat}{st:PM Int}(hs:∀k,c≤k→dV k 122 st)(hc:c+1≤m)(hm1:110≤m)(hq:q+1≤m){s t:PS}{a:Int}(h:iV (.ret ()) st q s=some (a,t)):
  evFn lay0.tab m 107 [.box 0 0,.p (.bool false)] s.A.hp=some (.p (.int .i64 a),t.A.hp):=by
 obtain⟨m,rfl,-⟩:=aO (show 0+1≤m by omega);apply JZ m s.A false;unfold uk;obtain⟨_,s1,h1,h⟩:=af h;obtain⟨l,s2,h2,h⟩:=af h;simp only[aa (Bl h1 (by omega:65≤m)),ba,aM,bP];obtain⟨b1,lp⟩:=uZ (hs m (by omega)) (by omega) false q s1 s2 [] l h2 m (by omega);simp only[List.map_nil,List.length_nil]at lp;rw[lp];simp only[aa (fv (m:=m) s2 (by omega)),aE,aw,bP];rcases bH h with⟨hk,h⟩|⟨hk,h⟩
 ·obtain⟨x,s3,h3,h⟩:=af h;obtain⟨_,s4,h4,h⟩:=af h;obtain⟨-,rfl⟩:=aH h4;obtain⟨_,s5,h5,h⟩:=af h;obtain⟨rfl,rfl⟩:=aH h;have ha:=Kw (m:=m) h3 (by omega);have hcl:evFn lay0.tab m 124 [.box 0 0,.p (.str [125])] (bi.mk (s3.D (l.map iE)).tk (s3.D (l.map iE)).ps (s3.D (l.map iE)).en (s3.D (l.map iE)).aT (s3.D (l.map iE)).er (s3.D (l.map iE)).ne (s3.D (l.map iE)).tt (s3.D (l.map iE)).nd (s3.D (l.map iE)).no).hp=some (.tup [],s5.A.hp):=Bk h5 (by omega);simp only[hk,Bool.not_true,aU,aa ha,aE,aP,UR,aa hcl];rfl
 ·obtain⟨rfl,rfl⟩:=aH h;simp only[hk,Bool.not_false,aV]
theorem P9 {s t:PS}{u:Unit}(h:wx s=some (u,t)):s.nd.length<10000∧0<s.nd.length∧(∀x∈s.nd,kO s.nd.length x.kids)∧(∀x∈s.nd,x.kids.length<10000)∧(bif br 1500 (ao .i64 (s.tt+(s.nd.length:Int)))then s.fail 5 else bif br 24 (jp s.nd)then s.fail 5 else s)=t:=by
 unfold wx at h;cases hb:(decide (s.nd.length<10000)&&decide (0<s.nd.length)&&s.nd.all (rA s.nd.length))with
 |false=>rw[hb]at h;cases h
 |true=>
  rw[hb]at h;simp only[lβ,lγ,mγ,rA,j1,p9]at hb;injection h with h;injection h with _ h;exact⟨hb.1.1,hb.1.2,fun x hx=>(hb.2 x hx).2,fun x hx=>(hb.2 x hx).1,h⟩
theorem E_yblockN {c m q:Nat}{st:PM Int}(hs:∀k,c≤k→dV k 122 st)(hc:c+1≤m)(hm1:10010≤m)(hq:q+1≤m){s t:PS}{a:Int}(h:iV wx st q {s with nd:=[],ne:=0}=some (a,t)):
  evFn lay0.tab m 107 [.box 0 0,.p (.bool true)] (DM.mk s.B.tk s.B.ps s.B.en s.B.aT s.B.er 0 s.B.tt).hp=some (.p (.int .i64 a),t.A.hp):=by
 obtain⟨m,rfl,-⟩:=aO (show 0+1≤m by omega);apply HV m (DM.mk s.B.tk s.B.ps s.B.en s.B.aT s.B.er 0 s.B.tt) true;unfold qM;obtain⟨_,s1,h1,h⟩:=af h;obtain⟨l,s2,h2,h⟩:=af h;have ho:evFn lay0.tab m 121 [.box 0 0,.p (.str [123])] (bi.mk (DM.mk s.B.tk s.B.ps s.B.en s.B.aT s.B.er 0 s.B.tt).tk (DM.mk s.B.tk s.B.ps s.B.en s.B.aT s.B.er 0 s.B.tt).ps (DM.mk s.B.tk s.B.ps s.B.en s.B.aT s.B.er 0 s.B.tt).en (DM.mk s.B.tk s.B.ps s.B.en s.B.aT s.B.er 0 s.B.tt).aT (DM.mk s.B.tk s.B.ps s.B.en s.B.aT s.B.er 0 s.B.tt).er (DM.mk s.B.tk s.B.ps s.B.en s.B.aT s.B.er 0 s.B.tt).ne (DM.mk s.B.tk s.B.ps s.B.en s.B.aT s.B.er 0 s.B.tt).tt 0 []).hp=some (.tup [],s1.A.hp):=Bl h1 (by omega);simp only[aa ho,ba,aM,bP];obtain⟨b1,lp⟩:=sd (hs m (by omega)) (by omega) true q s1 s2 [] l h2 m (by omega);simp only[List.map_nil,List.length_nil]at lp;rw[lp];simp only[aa (fv (m:=m) s2 (by omega)),aE,aw,bP];rcases bH h with⟨hk,h⟩|⟨hk,h⟩
 ·obtain⟨x,s3,h3,h⟩:=af h;obtain⟨_,s4,h4,h⟩:=af h;obtain⟨g1,g2,g3,g4,g5⟩:=P9 h4;obtain⟨_,s5,h5,h⟩:=af h;obtain⟨rfl,rfl⟩:=aH h;have ha:=Kw (m:=m) h3 (by omega);have hf:=fu (m:=m) s3 5 (by omega);have hf':evFn lay0.tab m 44 [.box 0 0,.p (.int .i64 5)] (bi.mk (s3.D (l.map iE)).tk (s3.D (l.map iE)).ps (s3.D (l.map iE)).en (s3.D (l.map iE)).aT (s3.D (l.map iE)).er (s3.D (l.map iE)).ne (s3.D (l.map iE)).tt (s3.D (l.map iE)).nd (s3.D (l.map iE)).no).hp=some (.tup [],(s3.fail 5).A.hp):=hf;have hf2:evFn lay0.tab m 44 [.box 0 0,.p (.int .i64 5)] (bi.mk (s3.D (l.map iE)).tk (s3.D (l.map iE)).ps (s3.D (l.map iE)).en (s3.D (l.map iE)).aT (s3.D (l.map iE)).er (s3.D (l.map iE)).ne (s3.D (l.map iE)).tt (s3.D (l.map iE)).nd (s3.nd.map No.e)).hp=some (.tup [],(s3.fail 5).A.hp):=hf;have hh:evFn lay0.tab m 55 [.arr 0 0 (s3.D (l.map iE)).nd 8] [.arr (s3.D (l.map iE)).no]=some (.p (.int .i64 (jp s3.nd)),[.arr (s3.nd.map No.e)]):=HD (m:=m) s3.nd g2 g3 g4 g1 (by omega);have hcl:evFn lay0.tab m 124 [.box 0 0,.p (.str [125])] s4.A.hp=some (.tup [],s5.A.hp):=Bk h5 (by omega);have q1:∀(a:Int) (t:PS),gI (.tup []) t.A.hp a=some (.p (.int .i64 a),t.A.hp):=fun a t=>rfl
  have ht:br 1500 (ao .i64 ((s3.D (l.map iE)).tt+ ↑(s3.D (l.map iE)).nd))=br 1500 (ao .i64 (s3.tt+(s3.nd.length:Int))):=rfl;simp only[hk,Bool.not_true,aU,aa ha,aE,aP,UR,aV,ht];cases c1:br 1500 (ao .i64 (s3.tt+(s3.nd.length:Int)))with
  |true=>
   rw[c1,cond_true]at g5;rw[←g5]at hcl;simp only[aV,aa hf',ba,aM,bP,aa hcl,q1]
  |false=>
   rw[c1,cond_false]at g5;simp only[aU,aa hh,aE,aP,jn,gp,aM];cases c2:br 24 (jp s3.nd)with
   |true=>
    rw[c2,cond_true]at g5;rw[←g5]at hcl;simp only[aV,aa hf2,ba,aM,bP,aa hcl,q1]
   |false=>
    rw[c2,cond_false]at g5;subst g5;have hcl2:evFn lay0.tab m 124 [.box 0 0,.p (.str [125])] (bi.mk (s3.D (l.map iE)).tk (s3.D (l.map iE)).ps (s3.D (l.map iE)).en (s3.D (l.map iE)).aT (s3.D (l.map iE)).er (s3.D (l.map iE)).ne (s3.D (l.map iE)).tt (s3.D (l.map iE)).nd (s3.nd.map No.e)).hp=some (.tup [],s5.A.hp):=hcl;simp only[aU,aa hcl2,q1]
 ·obtain⟨rfl,rfl⟩:=aH h;simp only[hk,Bool.not_false,aV]
theorem QX {q:Nat}(hq:q<1000000)(f0:Nat):∀f,f≤f0→Rq (q+300+12*f0+5*f) (Ii q f)
 |0,_=>fun m hm s t a h=>by simp only[Ii]at h;cases h
 |f+1,hf=>fun m hm s t a h=>by
  have ih:=QX hq f0 f (by omega);simp only[Ii]at h;exact JH (c:=q+300+12*f0+5*f+4) (fun k hk=>oX (Mq hq f 0 (by omega)) ih (by omega) (by omega) (by omega) (by omega) hq) (by omega) (by omega) (by omega) h
theorem OL {q f m:Nat}(hq:q<1000000)(hm:q+310+17*f≤m)(hm1:10010≤m){s t:PS}{a:Int}(h:iV wx (mN (pK q f 0) (Ii q f) q) q {s with nd:=[],ne:=0}=some (a,t)):
  evFn lay0.tab m 107 [.box 0 0,.p (.bool true)] (DM.mk s.B.tk s.B.ps s.B.en s.B.aT s.B.er 0 s.B.tt).hp=some (.p (.int .i64 a),t.A.hp):=
 E_yblockN (c:=q+300+17*f+4) (fun k hk=>oX (Mq hq f 0 (by omega)) (QX hq f f (Nat.le_refl f)) (by omega) (by omega) (by omega) (by omega) hq) (by omega) hm1 (by omega) h
end
end Go.Ab
end
section
namespace Go.Ab
open Go
set_option maxRecDepth 100000
noncomputable section
theorem xb {m q:Nat}(vk vn:Int)(vs:List Nat)(hm1:110≤m)(hq:q+1≤m)(hq':q<1000000){s t:PS}{l l':List Int}(h:Gx zK (snoc pInt) 16 q l s=some (l',t)):
  evFn lay0.tab m 104 [.box 0 0,.p (.int .i64 16),.fn 116 [.box 1 0],.fn 117 [.box 2 0,.box 1 0]] (s.BI vk vn vs (l.map iE)).hp=some (.tup [],(t.BI vk vn vs (l'.map iE)).hp):=by
 obtain⟨m,rfl,-⟩:=aO (show 0+1≤m by omega);apply xp m (s.BI vk vn vs (l.map iE)) 16;unfold jB;obtain⟨hz,h⟩:=aS h;have e1:evFn lay0.tab m 43 [.box 0 0,.p (.str [41])] (bw.mk (s.BI vk vn vs (l.map iE)).tk (s.BI vk vn vs (l.map iE)).ps (s.BI vk vn vs (l.map iE)).en (s.BI vk vn vs (l.map iE)).aT (s.BI vk vn vs (l.map iE)).er (s.BI vk vn vs (l.map iE)).ne (s.BI vk vn vs (l.map iE)).tt (s.BI vk vn vs (l.map iE)).nd).hp=some (.p (.bool (s.is [41])),s.B.hp):=kx (m:=m) s _ hz (by omega);simp only[aa e1,aE,aw,eX];rcases h with⟨hk,h⟩|⟨hk,h⟩
 ·obtain⟨rfl,rfl⟩:=aH h;rw[hk];rfl
 ·rw[hk,aU];exact Ck (by omega) vk vn vs q s t 0 l l' h (by omega) m (by omega)
theorem xc {m q:Nat}(vk vn:Int)(vs:List Nat)(hm1:110≤m)(hq:q+1≤m)(hq':q<1000000){s t:PS}{l l':List (List Nat)}(h:Gx zM (snoc ((j6 4).bnd fun t=> .ret t.s)) 16 q l s=some (l',t)):
  evFn lay0.tab m 104 [.box 0 0,.p (.int .i64 16),.fn 119 [.box 1 0],.fn 120 [.box 2 0,.box 1 0]] (s.BL vk vn vs (l.map Da.str)).hp=some (.tup [],(t.BL vk vn vs (l'.map Da.str)).hp):=by
 obtain⟨m,rfl,-⟩:=aO (show 0+1≤m by omega);apply xq m (s.BL vk vn vs (l.map Da.str)) 16;unfold jC;obtain⟨hz,h⟩:=aS h;have e1:evFn lay0.tab m 43 [.box 0 0,.p (.str [41])] (bw.mk (s.BL vk vn vs (l.map Da.str)).tk (s.BL vk vn vs (l.map Da.str)).ps (s.BL vk vn vs (l.map Da.str)).en (s.BL vk vn vs (l.map Da.str)).aT (s.BL vk vn vs (l.map Da.str)).er (s.BL vk vn vs (l.map Da.str)).ne (s.BL vk vn vs (l.map Da.str)).tt (s.BL vk vn vs (l.map Da.str)).nd).hp=some (.p (.bool (s.is [41])),s.B.hp):=kx (m:=m) s _ hz (by omega);simp only[aa e1,aE,aw,eX];rcases h with⟨hk,h⟩|⟨hk,h⟩
 ·obtain⟨rfl,rfl⟩:=aH h;rw[hk];rfl
 ·rw[hk,aU];exact Cl (by omega) vk vn vs q s t 0 l l' h (by omega) m (by omega)
theorem y5 {m q:Nat}(hm1:120≤m)(hq:q+2≤m)(hq':q<1000000){s t:PS}{v:Va}(h:wv q s=some (v,t)):evFn lay0.tab m 103 [.box 0 0] s.B.hp=some (.p v.e,t.B.hp):=by
 obtain⟨m,rfl,-⟩:=aO (show 0+1≤m by omega);apply zw m s.B;unfold kE;obtain⟨hz,h⟩:=vf h;have hp:=iy (m:=m) s 0 (by decide) hz (by omega);simp only[show((0:Nat):Int)=0 from rfl]at hp;have hac:=fun x=>dZ (m:=m) s x hz (by omega)
 simp only[aa hp,aE,xA,eX,show(s.peek 0).r.Kind=(s.peek 0).k from rfl];rcases h with⟨h1,h⟩|⟨h1,h2,h⟩|⟨h1,h2,h3,h⟩|⟨h1,h2,h3,h⟩
 ·injection h with h4 h5;subst h4 h5;rw[h1,aV,VS hz (by decide) h1];rfl
 ·injection h with h4 h5;subst h4 h5;rw[h1,aU];simp only[aa (hac _),aE,aw,eX];rw[h2,aV];rfl
 ·injection h with h4 h5;subst h4 h5;rw[h1,aU];simp only[aa (hac _),aE,aw,eX];rw[h2,aU,cond_false];simp only[aa (hac _),aE,aw,eX];rw[h3,aV];rfl
 ·rw[h1,aU];simp only[aa (hac _),aE,aw,eX];rw[h2,aU,cond_false];simp only[aa (hac _),aE,aw,eX];rw[h3,aU,cond_false];simp only[aa (hac _),aE,aw,eX];cases c4:s.is [105,110,116,115]with
  |true=>
   have h:=fF h c4;obtain⟨_,s1,h5,h⟩:=af h;obtain⟨-,rfl⟩:=bF h5;obtain⟨_,s2,h6,h⟩:=af h;obtain⟨l,s3,h7,h⟩:=af h;obtain⟨_,s4,h8,h⟩:=af h;obtain⟨rfl,rfl⟩:=aH h;have he:evFn lay0.tab m 104 [.box 0 0,.p (.int .i64 16),.fn 116 [.box 1 0],.fn 117 [.box 2 0,.box 1 0]] (jH.mk s2.B.tk s2.B.ps s2.B.en s2.B.aT s2.B.er s2.B.ne s2.B.tt s2.B.nd 4 0 [] 0 []).hp=some (.tup [],(s3.BI 4 0 [] (l.map iE)).hp):=xb (m:=m) 4 0 [] (by omega) (by omega) hq' h7;have hx:evFn lay0.tab m 74 [.box 0 0,.p (.str [41])] (bw.mk (s3.BI 4 0 [] (l.map iE)).tk (s3.BI 4 0 [] (l.map iE)).ps (s3.BI 4 0 [] (l.map iE)).en (s3.BI 4 0 [] (l.map iE)).aT (s3.BI 4 0 [] (l.map iE)).er (s3.BI 4 0 [] (l.map iE)).ne (s3.BI 4 0 [] (l.map iE)).tt (s3.BI 4 0 [] (l.map iE)).nd).hp=some (.tup [],s4.B.hp):=eU h8 (by omega);simp only[aV,cond_true,aa (eU h6 (by omega:63≤m)),ba,aM,eX,aa he,UP,aa hx];have e3:List.take (s3.BI 4 0 [] (l.map iE)).vi (List.drop 0 (s3.BI 4 0 [] (l.map iE)).il)=l.map iE:=by
    show List.take (l.map iE).length (List.drop 0 (l.map iE))=_;rw[List.drop_zero,List.take_length]
   rw[e3];rfl
  |false=>
   have h:=fE h c4;simp only[aU,cond_false,aa (hac _),aE,aw,eX];cases c5:s.is [115,116,114,105,110,103,115]with
   |true=>
    have h:=fF h c5;obtain⟨_,s1,h5,h⟩:=af h;obtain⟨-,rfl⟩:=bF h5;obtain⟨_,s2,h6,h⟩:=af h;obtain⟨l,s3,h7,h⟩:=af h;obtain⟨_,s4,h8,h⟩:=af h;obtain⟨rfl,rfl⟩:=aH h;have he:evFn lay0.tab m 104 [.box 0 0,.p (.int .i64 16),.fn 119 [.box 1 0],.fn 120 [.box 2 0,.box 1 0]] (jI.mk s2.B.tk s2.B.ps s2.B.en s2.B.aT s2.B.er s2.B.ne s2.B.tt s2.B.nd 5 0 [] 0 []).hp=some (.tup [],(s3.BL 5 0 [] (l.map Da.str)).hp):=xc (m:=m) 5 0 [] (by omega) (by omega) hq' h7;have hx:evFn lay0.tab m 74 [.box 0 0,.p (.str [41])] (bw.mk (s3.BL 5 0 [] (l.map Da.str)).tk (s3.BL 5 0 [] (l.map Da.str)).ps (s3.BL 5 0 [] (l.map Da.str)).en (s3.BL 5 0 [] (l.map Da.str)).aT (s3.BL 5 0 [] (l.map Da.str)).er (s3.BL 5 0 [] (l.map Da.str)).ne (s3.BL 5 0 [] (l.map Da.str)).tt (s3.BL 5 0 [] (l.map Da.str)).nd).hp=some (.tup [],s4.B.hp):=eU h8 (by omega);simp only[aV,cond_true,aa (eU h6 (by omega:63≤m)),ba,aM,eX,aa he,UQ,aa hx];have e3:List.take (s3.BL 5 0 [] (l.map Da.str)).vl (List.drop 0 (s3.BL 5 0 [] (l.map Da.str)).il)=l.map Da.str:=by
     show List.take (l.map Da.str).length (List.drop 0 (l.map Da.str))=_;rw[List.drop_zero,List.take_length]
    rw[e3];rfl
   |false=>
    have h:=fE h c5;obtain⟨n,s1,h6,h⟩:=af h;obtain⟨rfl,rfl⟩:=aH h;simp only[aU,cond_false,aa (rZ h6 (by omega:65≤m)),aE,aP,eX];rfl
theorem yA:∀(l:List (List Nat)) (i:Int) (s:PS),0≤i→0≤(ck l i s).1∧(ck l i s).1<i+l.length∨l=[]
 |[],i,s,_=> .inr rfl
 |x::r,i,s,hi=>by
  left;simp only[ck,List.length_cons];cases s.is x with
  |true=>rw[cond_true];exact⟨hi,by show i<_;omega⟩
  |false=>
   rw[cond_false];rcases yA r (i+1) s (by omega)with⟨h1,h2⟩|rfl
   ·exact⟨h1,by omega⟩
   ·simp only[ck,List.length_nil];omega
theorem P3 {s t:PS}{k:Int}(h:pKind s=some (k,t)):0≤k∧k≤5:=by
 obtain⟨hz,h⟩:=vQ h;rcases yA kindL 1 s (by omega)with⟨h1,h2⟩|h1
 ·rw[h]at h1 h2;have:kindL.length=5:=rfl;rw[this]at h2;exact⟨h1,by omega⟩
 ·cases h1
theorem JI {m q:Nat}(hm1:130≤m)(hq:q+3≤m)(hq':q<1000000){s t:PS}{f:Fe}(h:mL q s=some (f,t)):evFn lay0.tab m 76 [.box 0 0] s.B.hp=some (.p f.e,t.B.hp):=by
 obtain⟨m,rfl,-⟩:=aO (show 0+1≤m by omega);apply J4 m s.B;unfold ur oi;obtain⟨_,s1,h1,h⟩:=af h;obtain⟨n,s2,h2,h⟩:=af h;obtain⟨_,s3,h3,h⟩:=af h;obtain⟨k,s4,h4,h⟩:=af h;obtain⟨_,s5,h5,h⟩:=af h;obtain⟨_,s6,h6,h⟩:=af h;obtain⟨hz,h6⟩:=bz h6;injection h6 with _ h6;obtain⟨v,s7,h7,h⟩:=af h;obtain⟨_,s8,h8,h⟩:=af h;obtain⟨rfl,rfl⟩:=aH h;have hk:=P3 h4;have hp:=iy (m:=m) s5 0 (by decide) hz (by omega);simp only[show((0:Nat):Int)=0 from rfl]at hp;have his:=fun x=>kx (m:=m) s5 x hz (by omega)
 have hcst:=y5 (m:=m) (by omega) (by omega) hq' h7;have q2:f7 (bu lay0.tab m) s6.B n k=some (.p (Fe.e ⟨n,k,v⟩),s8.B.hp):=by
  unfold f7;simp only[aa hcst,aE,Vr,eX,aa (eU h8 (by omega:63≤m)),ba,aM];rfl
 have q1:∀b,b=cQ k s5→cd b (bu lay0.tab m) s5.B n k=some (.p (Fe.e ⟨n,k,v⟩),s8.B.hp):=by
  intro b hb;unfold cd;rw[←hb]at h6;cases b with
  |true=>
   simp only[Bool.not_true,cond_false]at h6;subst h6;simp only[Bool.not_true,aU];exact q2
  |false=>
   simp only[Bool.not_false,cond_true]at h6;subst h6;simp only[Bool.not_false,aV,aa (cB (m:=m) s5 13 (by omega)),ba,aM,eX];exact q2
 have gZ:∀b1 b2 b3 b4 b5:Bool,b1=(s5.is [45]||eqI (s5.peek 0).k 3)→b2=(s5.is [116,114,117,101]||s5.is [102,97,108,115,101])→b3=eqI (s5.peek 0).k 4→b4=s5.is [105,110,116,115]→b5=s5.is [115,116,114,105,110,103,115]→
   iL (eqI k ↑(0:Nat)) (bu lay0.tab m 44 [(.box 0 0),(.p (.int .i64 13))] s5.B.hp fun d130 o131=>aY d130 fun r132=>aA r132<|aK o131 fun u133=>f7 (bu lay0.tab m) u133 n k)
    (iL (eqI k ↑(0+1:Nat)) (cd b1 (bu lay0.tab m) s5.B n k) (iL (eqI k ↑(0+1+1:Nat)) (cd b2 (bu lay0.tab m) s5.B n k) (iL (eqI k ↑(0+1+1+1:Nat)) (cd b3 (bu lay0.tab m) s5.B n k)
     (iL (eqI k ↑(0+1+1+1+1:Nat)) (cd b4 (bu lay0.tab m) s5.B n k) (iL (eqI k ↑(0+1+1+1+1+1:Nat)) (cd b5 (bu lay0.tab m) s5.B n k) none)))))=some (.p (Fe.e ⟨n,k,v⟩),s8.B.hp):=by
  intro b1 b2 b3 b4 b5 e1 e2 e3 e4 e5;have hc:k=0∨k=1∨k=2∨k=3∨k=4∨k=5:=by omega
  rcases hc with rfl|rfl|rfl|rfl|rfl|rfl
  ·have hf:cQ 0 s5=false:=rfl;rw[hf]at h6;simp only[Bool.not_false,cond_true]at h6;subst h6;rw[show eqI 0 ↑(0:Nat)=true from rfl,aV];simp only[aa (cB (m:=m) s5 13 (by omega)),ba,aM,eX];exact q2
  ·exact q1 b1 e1
  ·exact q1 b2 e2
  ·exact q1 b3 e3
  ·exact q1 b4 e4
  ·exact q1 b5 e5
 simp only[aa (eU h1 (by omega:63≤m)),ba,aM,eX,aa (tE h2 (by omega:63≤m)),aE,ox,aa (eU h3 (by omega:63≤m)),aa (y3 h4 (by omega:80≤m)),aP,aa (eU h5 (by omega:63≤m)),aa (his _),aw,aa hp,xA,show(s5.peek 0).r.Kind=(s5.peek 0).k from rfl];cases c1:s5.is [45]<;>cases c2:s5.is [116,114,117,101]<;>simp only[aV,aU]<;>(refine gZ _ _ _ _ _ ?_ ?_ rfl rfl rfl<;>simp only[c1,c2,Bool.true_or,Bool.false_or])
def PS.M (s:PS)(mn:List Nat)(mr:Int)(l:List Da):xl:=⟨s.tk.map Tk.e,s.ps,s.en,s.aT,s.er,s.ne,s.tt,s.nd.map No.e,mn,l.length,mr,l⟩
def PS.P (s:PS)(mn:List Nat)(mr:Int)(l:List Da):NU:=⟨s.tk.map Tk.e,s.ps,s.en,s.aT,s.er,s.ne,s.tt,s.nd.map No.e,mn,l.length,mr,l⟩
def PS.Q (s:PS)(mn:List Nat)(mr:Int)(l:List Da):Oc:=⟨s.tk.map Tk.e,s.ps,s.en,s.aT,s.er,s.ne,s.tt,s.nd.map No.e,mn,l.length,mr,l⟩
theorem VI (c:xl)(K:xl→R):Cc c.hp K=K c:=rfl
theorem VE (c:Oc)(K:Oc→R):sh c.hp K=K c:=rfl
theorem DW {m:Nat}(s:PS)(hz:s.sz=true)(hm:65≤m):evFn lay0.tab m 105 [.box 0 0] s.Pv.hp=some (.p (.bool (zL s)),s.Pv.hp):=by
 replace hm:=aO hm;obtain⟨m,rfl,hm⟩:=hm;apply Em m s.Pv;unfold nX zL;have hp:=iy (m:=m) s 0 (by decide) hz (by omega);simp only[show((0:Nat):Int)=0 from rfl]at hp;have hp':evFn lay0.tab m 73 [.box 0 0,.p (.int .i64 0)] (bw.mk s.Pv.tk s.Pv.ps s.Pv.en s.Pv.aT s.Pv.er s.Pv.ne s.Pv.tt s.Pv.nd).hp=some (.p (s.peek 0).e,s.B.hp):=hp;simp only[aa hp',aE,eX,xA,show(s.peek 0).r.Kind=(s.peek 0).k from rfl];rfl
theorem DX {m:Nat}{s t:PS}{l l':List Pa}(mn:List Nat)(mr:Int)(h:snoc mM l s=some (l',t))(hm:90≤m):
  evFn lay0.tab m 106 [.box 0 0,.box 2 0] (s.P mn mr (l.map Pa.e)).hp=some (.tup [],(t.Q mn mr (l'.map Pa.e)).hp):=by
 replace hm:=aO hm;obtain⟨m,rfl,hm⟩:=hm;obtain⟨x,h1,hl,rfl⟩:=cF h;obtain⟨n,s1,h2,h1⟩:=af h1;obtain⟨_,s2,h3,h1⟩:=af h1;obtain⟨k,s3,h4,h1⟩:=af h1;obtain⟨rfl,rfl⟩:=aH h1;apply En m (s.P mn mr (l.map Pa.e));unfold nY;have hn:evFn lay0.tab m 75 [.box 0 0] (bw.mk (s.P mn mr (l.map Pa.e)).tk (s.P mn mr (l.map Pa.e)).ps (s.P mn mr (l.map Pa.e)).en (s.P mn mr (l.map Pa.e)).aT (s.P mn mr (l.map Pa.e)).er (s.P mn mr (l.map Pa.e)).ne (s.P mn mr (l.map Pa.e)).tt (s.P mn mr (l.map Pa.e)).nd).hp=some (.p (.str n),s1.B.hp):=tE h2 (by omega);simp only[aa hn,aE,ox,eX,aa (eU h3 (by omega:63≤m)),ba,aM,aa (y3 h4 (by omega:80≤m)),aP];have e1:Nat.beq (s.P mn mr (l.map Pa.e)).mp (List.length (s.P mn mr (l.map Pa.e)).pl)=true:=Nat.beq_refl _;rw[e1,aV,dy (show List.length (s.P mn mr (l.map Pa.e)).pl+List.length [Da.agg [Da.str n,Da.int .i64 k]]<1000000001 by show(l.map Pa.e).length+1<_;rw[lμ];omega) (by decide),aV];have e2:(s.P mn mr (l.map Pa.e)).pl++[Da.agg [Da.str n,Da.int .i64 k]]=(l++[(⟨n,k⟩:Pa)]).map Pa.e:=by rw[List.map_append];rfl
 rw[e2];rfl
def Q_elM (cc:ah)(mn:LN)(mr:Int)(n12:Nat)(l13:LD)(u:bw)(k0:Int×Int×Bool×bw×LN×Nat×Int×LD→R)(i6 i7:Int)(Y:eb→R):R:=
 cc 106 [(.box 0 0),(.box 2 0)] (NU.mk u.tk u.ps u.en u.aT u.er u.ne u.tt u.nd mn n12 mr l13).hp fun d28 o29=>aY d28 fun r30=>aA r30<|sh o29 fun u31=>
  cc 100 [(.box 0 0),(.p (.str [44]))] (bw.mk u31.tk u31.ps u31.en u31.aT u31.er u31.ne u31.tt u31.nd).hp fun d32 o33=>dP d32 fun x34=>aF x34 fun b35=>aK o33 fun u36=>
  iL (!b35) (k0 (i6,i7,!b35,u36,u31.mn,u31.mp,u31.mr,u31.pl)) (Y (i6,ao .i64 (i7+1),u36,u31.mn,u31.mp,u31.mr,u31.pl))
theorem Mf {m:Nat}(hm:100≤m){s1 s2:PS}{l l1:List Pa}(h2:snoc mM l s1=some (l1,s2))(hz2:s2.sz=true)(mn:List Nat)(mr:Int)(n:Nat)(k0:(Int×Int×Bool×bw×LN×Nat×Int×LD)→R)(Y:eb→R):
  Q_elM (bu lay0.tab m) mn mr (l.map Pa.e).length (l.map Pa.e) s1.B k0 4 n Y=iL (!s2.is [44]) (k0 (4,(n:Int),!s2.is [44],(bif s2.is [44]then s2.up else s2).B,mn,(l1.map Pa.e).length,mr,l1.map Pa.e)) (Y (4,ao .i64 ((n:Int)+1),(bif s2.is [44]then s2.up else s2).B,mn,(l1.map Pa.e).length,mr,l1.map Pa.e)):=by
 unfold Q_elM;have hel:evFn lay0.tab m 106 [.box 0 0,.box 2 0] (NU.mk s1.B.tk s1.B.ps s1.B.en s1.B.aT s1.B.er s1.B.ne s1.B.tt s1.B.nd mn (l.map Pa.e).length mr (l.map Pa.e)).hp=some (.tup [],(s2.Q mn mr (l1.map Pa.e)).hp):=DX mn mr h2 (by omega);simp only[aa hel,ba,aM,VE];have hac:evFn lay0.tab m 100 [.box 0 0,.p (.str [44])] (bw.mk (s2.Q mn mr (l1.map Pa.e)).tk (s2.Q mn mr (l1.map Pa.e)).ps (s2.Q mn mr (l1.map Pa.e)).en (s2.Q mn mr (l1.map Pa.e)).aT (s2.Q mn mr (l1.map Pa.e)).er (s2.Q mn mr (l1.map Pa.e)).ne (s2.Q mn mr (l1.map Pa.e)).tt (s2.Q mn mr (l1.map Pa.e)).nd).hp=some (.p (.bool (s2.is [44])),(bif s2.is [44]then s2.up else s2).B.hp):=dZ (m:=m) s2 _ hz2 (by omega);simp only[aa hac,aE,aw,eX];rfl
theorem Cm {m:Nat}(hm:100≤m)(mn:List Nat)(mr:Int):∀(q':Nat) (s t:PS) (n:Nat) (l l':List Pa),oz zL (snoc mM) 4 q' n l s=some (l',t)→n+q'<1000000→∀Q,q'≤Q→
  L_yelementsM_1 (bu lay0.tab m) m (fun(i58,i59,b60,u61,s62,n63,i64,l65)=>some ((.tup []),({u61 with mn:=s62,mp:=n63,mr:=i64,pl:=l65}:xl).hp)) (fun(i58,i59,b60,u61,s62,n63,i64,l65)=>some ((.tup []),({u61 with mn:=s62,mp:=n63,mr:=i64,pl:=l65}:xl).hp)) Q (4,(n:Int),s.B,mn,(l.map Pa.e).length,mr,l.map Pa.e)=some (.tup [],(t.M mn mr (l'.map Pa.e)).hp)
 |0,s,t,n,l,l',h,hn,Q,hQ=>by cases h
 |q'+1,s,t,n,l,l',h,hn,Q,hQ=>by
  obtain⟨Q,rfl⟩:∃j,Q=j+1:=⟨Q - 1,by omega⟩
  rw[sY];unfold oz at h;simp only[fB,aa (lK (m:=m) s (by omega)),aE,aw,eX];rcases bH h with⟨hk,h⟩|⟨hk,h⟩
  ·obtain⟨_,s1,h1,h⟩:=af h;obtain⟨hz,h1⟩:=bz h1;injection h1 with _ h1;obtain⟨l1,s2,h2,h⟩:=af h;obtain⟨hz2,h⟩:=aS h;have hb:=(show evFn lay0.tab m 105 [.box 0 0] (tH.mk s.B.tk s.B.ps s.B.en s.B.aT s.B.er s.B.ne s.B.tt s.B.nd).hp=some (.p (.bool (zL s)),s.Pv.hp)from DW (m:=m) s hz (by omega))
   have gZ:∀(X:R),X=Q_elM (bu lay0.tab m) mn mr (l.map Pa.e).length (l.map Pa.e) s1.B (fun(i58,i59,b60,u61,s62,n63,i64,l65)=>some ((.tup []),({u61 with mn:=s62,mp:=n63,mr:=i64,pl:=l65}:xl).hp)) 4 n (L_yelementsM_1 (bu lay0.tab m) m (fun(i58,i59,b60,u61,s62,n63,i64,l65)=>some ((.tup []),({u61 with mn:=s62,mp:=n63,mr:=i64,pl:=l65}:xl).hp)) (fun(i58,i59,b60,u61,s62,n63,i64,l65)=>some ((.tup []),({u61 with mn:=s62,mp:=n63,mr:=i64,pl:=l65}:xl).hp)) Q)→X=some (.tup [],(t.M mn mr (l'.map Pa.e)).hp):=by
    intro X hX;rw[hX,Mf hm h2 hz2];rcases h with⟨hc,h⟩|⟨hc,h⟩
    ·obtain⟨_,s3,h3,h⟩:=af h;obtain⟨-,rfl⟩:=bF h3;rw[hc,Bool.not_true,aU,cond_true,wS (show n<lI by unfold lI;omega)];exact Cm hm mn mr q' s2.up t (n+1) l1 l' h (by omega) Q (by omega)
    ·obtain⟨rfl,rfl⟩:=aH h;rw[hc];rfl
   apply gZ;rw[hk,aV];simp only[aa hb,aE,aw,US];have f13:evFn lay0.tab m 44 [.box 0 0,.p (.int .i64 13)] (bw.mk s.Pv.tk s.Pv.ps s.Pv.en s.Pv.aT s.Pv.er s.Pv.ne s.Pv.tt s.Pv.nd).hp=some (.tup [],(s.fail 13).B.hp):=cB (m:=m) s 13 (by omega);have f5:evFn lay0.tab m 44 [.box 0 0,.p (.int .i64 5)] (bw.mk s.Pv.tk s.Pv.ps s.Pv.en s.Pv.aT s.Pv.er s.Pv.ne s.Pv.tt s.Pv.nd).hp=some (.tup [],(s.fail 5).B.hp):=cB (m:=m) s 5 (by omega);simp only[aa f13,aa f5,ba,aM,eX,show eqI (n:Int) 4=Nat.beq n 4 from rfl];rw[←h1];cases zL s with
   |false=>rfl
   |true=>cases Nat.beq n 4<;>rfl
  ·obtain⟨rfl,rfl⟩:=aH h;rw[hk];rfl
theorem y6 {m q:Nat}(mn:List Nat)(mr:Int)(hm1:110≤m)(hq:q+1≤m)(hq':q<1000000 - 10){s t:PS}{l l':List Pa}(h:Gx zL (snoc mM) 4 q l s=some (l',t)):
  evFn lay0.tab m 104 [.box 0 0,.p (.int .i64 4),.fn 105 [.box 1 0],.fn 106 [.box 1 0,.box 2 0]] (s.M mn mr (l.map Pa.e)).hp=some (.tup [],(t.M mn mr (l'.map Pa.e)).hp):=by
 obtain⟨m,rfl,-⟩:=aO (show 0+1≤m by omega);apply zx m (s.M mn mr (l.map Pa.e)) 4;unfold kF;obtain⟨hz,h⟩:=aS h;have e1:evFn lay0.tab m 43 [.box 0 0,.p (.str [41])] (bw.mk (s.M mn mr (l.map Pa.e)).tk (s.M mn mr (l.map Pa.e)).ps (s.M mn mr (l.map Pa.e)).en (s.M mn mr (l.map Pa.e)).aT (s.M mn mr (l.map Pa.e)).er (s.M mn mr (l.map Pa.e)).ne (s.M mn mr (l.map Pa.e)).tt (s.M mn mr (l.map Pa.e)).nd).hp=some (.p (.bool (s.is [41])),s.B.hp):=kx (m:=m) s _ hz (by omega);simp only[aa e1,aE,aw,eX];rcases h with⟨hk,h⟩|⟨hk,h⟩
 ·obtain⟨rfl,rfl⟩:=aH h;rw[hk];rfl
 ·rw[hk,aU];exact Cm (by omega) mn mr q s t 0 l l' h (by omega) m (by omega)
theorem HE {m f q:Nat}(hm:q+320+17*f≤m)(hm1:10020≤m)(hq':q<1000000 - 10){s t:PS}{x:Me}(h:sF f q s=some (x,t)):evFn lay0.tab m 77 [.box 0 0] s.B.hp=some (.p x.e,t.B.hp):=by
 obtain⟨m,rfl,-⟩:=aO (show 0+1≤m by omega);apply HY m s.B;unfold qP;obtain⟨_,s1,h1,h⟩:=af h;obtain⟨n,s2,h2,h⟩:=af h;obtain⟨_,s3,h3,h⟩:=af h;obtain⟨ps,s4,h4,h⟩:=af h;obtain⟨_,s5,h5,h⟩:=af h;obtain⟨k,s6,h6,h⟩:=af h;obtain⟨ns,s7,h7,h⟩:=af h;obtain⟨rfl,rfl⟩:=aH h;have he:evFn lay0.tab m 104 [.box 0 0,.p (.int .i64 4),.fn 105 [.box 1 0],.fn 106 [.box 1 0,.box 2 0]] (xl.mk s3.B.tk s3.B.ps s3.B.en s3.B.aT s3.B.er s3.B.ne s3.B.tt s3.B.nd n 0 0 []).hp=some (.tup [],(s4.M n 0 (ps.map Pa.e)).hp):=y6 (m:=m) n 0 (by omega) (by omega) hq' h4;have hx:evFn lay0.tab m 74 [.box 0 0,.p (.str [41])] (bw.mk (s4.M n 0 (ps.map Pa.e)).tk (s4.M n 0 (ps.map Pa.e)).ps (s4.M n 0 (ps.map Pa.e)).en (s4.M n 0 (ps.map Pa.e)).aT (s4.M n 0 (ps.map Pa.e)).er (s4.M n 0 (ps.map Pa.e)).ne (s4.M n 0 (ps.map Pa.e)).tt (s4.M n 0 (ps.map Pa.e)).nd).hp=some (.tup [],s5.B.hp):=eU h5 (by omega);have hbody:∀(K:R→Prop),∃u a,iV wx (mN (pK q f 0) (Ii q f) q) q {s6 with nd:=[],ne:=0}=some (a,u)∧ns=u.nd∧s7={u with tt:=ao .i64 (u.tt+(u.nd.length:Int))}:=by
  intro K;unfold wt at h7;cases hp:iV wx (mN (pK q f 0) (Ii q f) q) q {s6 with nd:=[],ne:=0}with
  |none=>rw[hp]at h7;cases h7
  |some r=>
   rw[hp]at h7;injection h7 with h7;injection h7 with h8 h9;exact⟨r.2,r.1,rfl,h8.symm,h9.symm⟩
 obtain⟨u,a,hb,rfl,rfl⟩:=hbody fun _=>True
 have hB:=OL (m:=m) (by omega) (by omega) (by omega) hb;have gZ:∀k:Int,some ((.p (.agg [(.str (s4.M n 0 (ps.map Pa.e)).mn),(.slice 2 (List.take (s4.M n 0 (ps.map Pa.e)).mp (List.drop 0 (s4.M n 0 (ps.map Pa.e)).pl))),(.int .i64 k),(.slice 8 (List.take u.A.nd (List.drop 0 u.A.no)))])),(bw.mk u.A.tk u.A.ps u.A.en u.A.aT u.A.er u.A.ne (ao .i64 (u.A.tt+ ↑ (List.length (List.take u.A.nd (List.drop 0 u.A.no))))) (List.take u.A.nd (List.drop 0 u.A.no))).hp)=(some (.p (Me.e ⟨n,ps,k,u.nd⟩),PS.B {u with tt:=ao .i64 (u.tt+(u.nd.length:Int))} |>.hp):R):=by
  intro k;have e1:List.take (s4.M n 0 (ps.map Pa.e)).mp (List.drop 0 (s4.M n 0 (ps.map Pa.e)).pl)=ps.map Pa.e:=by
   show List.take (ps.map Pa.e).length (List.drop 0 (ps.map Pa.e))=_;rw[List.drop_zero,List.take_length]
  have e2:List.take u.A.nd (List.drop 0 u.A.no)=u.nd.map No.e:=by
   show List.take u.nd.length (List.drop 0 (u.nd.map No.e))=_;rw[List.drop_zero,mξ (by rw[lμ];omega)]
  rw[e1,e2,lμ];rfl
 obtain⟨hz,h6⟩:=aS h6;simp only[aa (eU h1 (by omega:63≤m)),ba,aM,eX,aa (tE h2 (by omega:63≤m)),aE,ox,aa (eU h3 (by omega:63≤m)),aa he,VI,aa hx,aa (dZ (m:=m) s5 _ hz (by omega)),aw];rcases h6 with⟨hk,h6⟩|⟨hk,h6⟩
 ·obtain⟨_,s8,h8,h6⟩:=af h6;obtain⟨-,rfl⟩:=bF h8;simp only[hk,aV,cond_true,aa (y3 h6 (by omega:80≤m)),aE,aP,eX,aa hB,bP];exact gZ k
 ·obtain⟨rfl,rfl⟩:=aH h6;simp only[hk,aU,cond_false,aa hB,aE,aP,bP];exact gZ 0
end
end Go.Ab
end
section
namespace Go.Ab
open Go
set_option maxRecDepth 100000
noncomputable section
theorem sr {m q:Nat}(hm:130≤m)(hq:q+3≤m)(hq':q<1000000){s t:PS}{l l':List Fe}(h:snoc (mL q) l s=some (l',t))(Y:iC→R)(x y:LN):
  Q_yactor_1 (bu lay0.tab m) s.B (l.map Fe.e).length (l.map Fe.e) Y x y=Y (t.B,x,y,(l'.map Fe.e).length,l'.map Fe.e):=by
 obtain⟨f,h1,hl,rfl⟩:=cF h;unfold Q_yactor_1;simp only[aa (JI hm hq hq' h1),aE,VB,eX,Nat.beq_refl,show ∀x:Nat,Nat.beq x x=true from fun x=>Nat.beq_refl x,aV];rw[dy (by rw[lμ];show l.length+1<_;omega) (by decide),aV,List.map_append];rfl
theorem wb {m f q:Nat}(hm:q+320+17*f≤m)(hm1:10020≤m)(hq':q<1000000 - 10){s t:PS}{l l':List Me}(h:snoc (sF f q) l s=some (l',t))(Y:iD→R)(x y:LN)(n:Nat)(r:LD):
  Q_yactor_2 (bu lay0.tab m) s.B (l.map Me.e).length (l.map Me.e) Y x y n r=Y (t.B,x,y,n,(l'.map Me.e).length,r,l'.map Me.e):=by
 obtain⟨g,h1,hl,rfl⟩:=cF h;unfold Q_yactor_2;simp only[aa (HE hm hm1 hq' h1),aE,VF,eX,Nat.beq_refl,show ∀x:Nat,Nat.beq x x=true from fun x=>Nat.beq_refl x,aV];rw[dy (by rw[lμ];show l.length+1<_;omega) (by decide),aV,List.map_append];rfl
theorem sq {m q:Nat}(hm:130≤m)(hq:q+3≤m)(hq':q<1000000)(x y:LN)(k0:Bool×bw×LN×LN×Nat×LD→R):∀(q':Nat) (s t:PS) (l l':List Fe),fc [115,116,97,116,101] 8 (mL q) q' l s=some (l',t)→∀Q,q'≤Q→
  L_yactor_1 (bu lay0.tab m) m k0 Q (s.B,x,y,(l.map Fe.e).length,l.map Fe.e)=k0 (false,t.B,x,y,(l'.map Fe.e).length,l'.map Fe.e)
 |0,s,t,l,l',h,Q,hQ=>by cases h
 |q'+1,s,t,l,l',h,Q,hQ=>by
  obtain⟨Q,rfl⟩:∃j,Q=j+1:=⟨Q - 1,by omega⟩
  rw[BD];unfold fc at h;obtain⟨hz,h⟩:=aS h;simp only[kW,aa (kx (m:=m) s _ hz (by omega)),aE,aw,eX];rcases h with⟨hk,h⟩|⟨hk,h⟩
  ·obtain⟨_,s1,h1,h⟩:=af h;obtain⟨-,h1⟩:=bz h1;injection h1 with _ h1;obtain⟨l1,s2,h2,h⟩:=af h;have e8:eqI (((l.map Fe.e).length:Nat):Int) 8=Nat.beq l.length 8:=by rw[lμ];rfl
   have ih:=sq hm hq hq' x y k0 q' s2 t l1 l' h Q (by omega);rw[hk,aV,e8];cases hb:Nat.beq l.length 8 with
   |true=>
    rw[hb,cond_true]at h1;subst h1;simp only[aV,aa (cB (m:=m) s 5 (by omega)),ba,aM,eX];rw[sr hm hq hq' h2];exact ih
   |false=>
    rw[hb,cond_false]at h1;subst h1;rw[aU,sr hm hq hq' h2];exact ih
  ·obtain⟨rfl,rfl⟩:=aH h;rw[hk];rfl
theorem wa {m f q:Nat}(hm:q+320+17*f≤m)(hm1:10020≤m)(hq':q<1000000 - 10)(x y:LN)(n:Nat)(r:LD)(k0:Bool×bw×LN×LN×Nat×Nat×LD×LD→R):∀(q':Nat) (s t:PS) (l l':List Me),fc [109,101,116,104,111,100] 16 (sF f q) q' l s=some (l',t)→∀Q,q'≤Q→
  L_yactor_2 (bu lay0.tab m) m k0 Q (s.B,x,y,n,(l.map Me.e).length,r,l.map Me.e)=k0 (false,t.B,x,y,n,(l'.map Me.e).length,r,l'.map Me.e)
 |0,s,t,l,l',h,Q,hQ=>by cases h
 |q'+1,s,t,l,l',h,Q,hQ=>by
  obtain⟨Q,rfl⟩:∃j,Q=j+1:=⟨Q - 1,by omega⟩
  rw[BE];unfold fc at h;obtain⟨hz,h⟩:=aS h;simp only[kX,aa (kx (m:=m) s _ hz (by omega)),aE,aw,eX];rcases h with⟨hk,h⟩|⟨hk,h⟩
  ·obtain⟨_,s1,h1,h⟩:=af h;obtain⟨-,h1⟩:=bz h1;injection h1 with _ h1;obtain⟨l1,s2,h2,h⟩:=af h;have e8:eqI (((l.map Me.e).length:Nat):Int) 16=Nat.beq l.length 16:=by rw[lμ];rfl
   have ih:=wa hm hm1 hq' x y n r k0 q' s2 t l1 l' h Q (by omega);rw[hk,aV,e8];cases hb:Nat.beq l.length 16 with
   |true=>
    rw[hb,cond_true]at h1;subst h1;simp only[aV,aa (cB (m:=m) s 5 (by omega)),ba,aM,eX];rw[wb hm hm1 hq' h2];exact ih
   |false=>
    rw[hb,cond_false]at h1;subst h1;rw[aU,wb hm hm1 hq' h2];exact ih
  ·obtain⟨rfl,rfl⟩:=aH h;rw[hk];rfl
theorem JG {m f q:Nat}(hm:q+321+17*f≤m)(hm1:10021≤m)(hq':q<1000000 - 10){s t:PS}{x:Ac}(h:lr f q s=some (x,t)):evFn lay0.tab m 45 [.box 0 0] s.B.hp=some (.p x.e,t.B.hp):=by
 obtain⟨m,rfl,-⟩:=aO (show 0+1≤m by omega);apply JY m s.B;unfold uj;obtain⟨_,s1,h1,h⟩:=af h;obtain⟨n,s2,h2,h⟩:=af h;obtain⟨_,s3,h3,h⟩:=af h;obtain⟨fs,s4,h4,h⟩:=af h;obtain⟨ms,s5,h5,h⟩:=af h;obtain⟨_,s6,h6,h⟩:=af h;obtain⟨rfl,rfl⟩:=aH h;simp only[aa (eU h1 (by omega:63≤m)),ba,aM,eX,aa (tE h2 (by omega:63≤m)),aE,ox,aa (eU h3 (by omega:63≤m))];have l1:=fun k0=>sq (m:=m) (by omega) (by omega) (by omega) [] n k0 q s3 s4 [] fs h4 m (by omega)
 simp only[List.map_nil,List.length_nil]at l1;rw[l1];have l2:=fun k0=>wa (m:=m) (by omega) (by omega) hq' [] n (fs.map Fe.e).length (fs.map Fe.e) k0 q s4 s5 [] ms h5 m (by omega)
 simp only[List.map_nil,List.length_nil]at l2;simp only[];rw[l2];simp only[aa (eU h6 (by omega:63≤m)),ba,aM,eX,List.drop_zero,List.take_length];rfl
theorem F1 {m f q:Nat}(hm:q+321+17*f≤m)(hm1:10021≤m)(hq':q<1000000 - 10){s t:PS}{l l':List Ac}(h:snoc (lr f q) l s=some (l',t))(Y:iB→R)(r:LD):
  Q_yParse_1 (bu lay0.tab m) s.B (l.map Ac.e).length (l.map Ac.e) Y r=Y (r,(l'.map Ac.e).length,l'.map Ac.e,t.B):=by
 obtain⟨g,h1,hl,rfl⟩:=cF h;unfold Q_yParse_1;simp only[aa (JG hm hm1 hq' h1),aE,VA];change iL (Nat.beq (l.map Ac.e).length (l.map Ac.e).length) (iL (eG ((l.map Ac.e).length+List.length [Ac.e g]) 64) (Y (r,((l.map Ac.e)++[Ac.e g]).length,(l.map Ac.e)++[Ac.e g],t.B)) none) none=_;rw[show Nat.beq (l.map Ac.e).length (l.map Ac.e).length=true from Nat.beq_refl _,aV,dy (by rw[lμ];show l.length+1<_;omega) (by decide),aV,List.map_append];rfl
theorem w7 {m f q:Nat}(hm:q+321+17*f≤m)(hm1:10021≤m)(hq':q<1000000 - 10)(tk:List Tk):∀(q':Nat) (s t:PS) (l l':List Ac),cH tk.length f q q' l s=some (l',t)→∀Q,q'≤Q→
  ∃b1:Bool,∀k0:LD×Bool×Nat×LD×bw→R,kQ (bu lay0.tab m) m k0 Q (tk.map Tk.e,(l.map Ac.e).length,l.map Ac.e,s.B)=k0 (tk.map Tk.e,b1,(l'.map Ac.e).length,l'.map Ac.e,t.B)
 |0,s,t,l,l',h,Q,hQ=>by cases h
 |q'+1,s,t,l,l',h,Q,hQ=>by
  obtain⟨Q,rfl⟩:∃j,Q=j+1:=⟨Q - 1,by omega⟩
  unfold cH at h;rcases bH h with⟨hk,h⟩|⟨hk,h⟩
  ·obtain⟨hz,h⟩:=aS h;have elt:br s.B.ps (((tk.map Tk.e).length:Nat):Int)=decide (s.ps<tk.length):=by
    show br (s.ps:Int) _=_;rw[p9,lμ,decide_eq_decide];omega
   rcases h with⟨hc,h⟩|⟨hc,h⟩
   ·obtain⟨_,s1,h1,h⟩:=af h;obtain⟨-,h1⟩:=bz h1;injection h1 with _ h1;obtain⟨l1,s2,h2,h⟩:=af h;obtain⟨b1,ih⟩:=w7 hm hm1 hq' tk q' s2 t l1 l' h Q (by omega);refine⟨b1,fun k0=>?_⟩
    rw[lY];have e8:eqI (((l.map Ac.e).length:Nat):Int) 8=Nat.beq l.length 8:=by rw[lμ];rfl
    simp only[f8,aa (lK (m:=m) s (by omega)),aE,aw,eX,hk,aV,elt,hc,aa (kx (m:=m) s _ hz (by omega)),e8,aa (cB (m:=m) s 5 (by omega)),ba,aM];have st:=fun Y=>F1 hm hm1 hq' h2 Y (tk.map Tk.e)
    rw[←h1]at st;cases c1:s.is [97,99,116,111,114]with
    |true=>
     cases c2:Nat.beq l.length 8 with
     |true=>
      rw[c1,c2]at st;simp only[Bool.and_self,cond_true]at st;rw[aV,aV,st];exact ih k0
     |false=>
      rw[c1,c2]at st;simp only[Bool.and_false,cond_false]at st;rw[aV,aU,st];exact ih k0
    |false=>
     rw[c1]at st;simp only[Bool.false_and,cond_false]at st;rw[aU,st];exact ih k0
   ·obtain⟨rfl,rfl⟩:=aH h;refine⟨false,fun k0=>?_⟩
    rw[lY];simp only[f8,aa (lK (m:=m) s (by omega)),aE,aw,eX,hk,aV,elt,hc,aU]
  ·obtain⟨rfl,rfl⟩:=aH h;refine⟨false,fun k0=>?_⟩
   rw[lY];simp only[f8,aa (lK (m:=m) s (by omega)),aE,aw,eX,hk,aU]
def Hb (r:List Ac×Int×Int):D:= .tup [.p (.agg [.slice 3 (r.1.map Ac.e)]),.p (.int .i64 r.2.1),.p (.int .i64 r.2.2)]
theorem Bp {m f q:Nat}(hm:q+322+17*f≤m)(hm1:10022≤m)(hq':q<1000000 - 10){tk:List Tk}{en:Int}{r:List Ac×Int×Int}(h:jO tk en f q=some r):
  evFn lay0.tab m 14 [.p (.slice 4 (tk.map Tk.e)),.p (.int .i64 en)] []=some (Hb r,[]):=by
 obtain⟨m,rfl,-⟩:=aO (show 0+1≤m by omega);apply JX m (tk.map Tk.e) en;unfold ui;unfold jO at h;cases hg:cH tk.length f q q [] ⟨tk,0,en,0,0,0,0,[]⟩with
 |none=>rw[hg]at h;cases h
 |some r0=>
  obtain⟨l,s⟩:=r0;rw[hg]at h;injection h with h;obtain⟨b1,e⟩:=w7 (m:=m) (by omega) (by omega) hq' tk q _ s [] l hg m (by omega);refine(e _).trans ?_;simp only[aa (lK (m:=m) s (by omega)),aE,aw,eX];subst h;cases hk:s.ok with
  |false=>rfl
  |true=>
   simp only[Bool.not_true,aU,cond_false,List.drop_zero,List.take_length];rfl
def qr (src:List Nat)(f q:Nat):Option (List Ac×Int×Int):=bif !eqI (lH src).2.2 0 then some ([],(lH src).2.1,(lH src).2.2)else jO (lH src).1 (src.length:Int) f q
theorem HA {m f q:Nat}(hm:q+323+17*f≤m)(hm1:10023≤m)(hq':q<1000000 - 10){src:List Nat}(hb:By src)(hl:src.length<1000000)(hm2:src.length+60≤m){r:List Ac×Int×Int}(h:qr src f q=some r):
  evFn lay0.tab m 11 [.p (.str src)] []=some (Hb r,[]):=by
 obtain⟨m,rfl,-⟩:=aO (show 0+1≤m by omega);apply HT m src;unfold qK;unfold qr at h;simp only[aa (xS (m:=m) src hb hl (by omega)),Hs,ba,jn,aE,se,aP,aM];cases he:eqI (lH src).2.2 0 with
 |false=>
  rw[he,Bool.not_false,cond_true]at h;injection h with h;subst h;rfl
 |true=>
  rw[he,Bool.not_true,cond_false]at h;simp only[Bool.not_true,aU,aa (Bp (m:=m) (by omega) (by omega) hq' h)];rfl
end
end Go.Ab
end
section
namespace Go.Ab
open Go
set_option maxRecDepth 100000
noncomputable section
structure Iv (s:PS):Prop where
 sz:s.sz=true
 len:s.tk.length≤6000
 nd:s.nd.length≤s.ps
 wf:∀x∈s.nd,kO s.nd.length x.kids∧x.kids.length<10000
structure Ad (s t:PS):Prop where
 tk:t.tk=s.tk
 en:t.en=s.en
 ps:s.ps≤t.ps
 ok:t.ok=true→s.ok=true
 nd:s.nd.length≤t.nd.length
 de:t.nd.length+s.ps≤s.nd.length+t.ps
theorem Ad.refl (s:PS):Ad s s:=⟨rfl,rfl,Nat.le_refl _,id,Nat.le_refl _,Nat.le_refl _⟩
theorem Ad.trans {a b c:PS}(h:Ad a b)(g:Ad b c):Ad a c:=⟨g.tk.trans h.tk,g.en.trans h.en,mμ h.ps g.ps,fun k=>h.ok (g.ok k),mμ h.nd g.nd,by have:=h.de;have:=g.de;omega⟩
theorem Iv.le {s:PS}(h:Iv s):s.ps≤s.tk.length:=(qv h.sz).1
def Tt {α:Type}(s0 s:PS)(p:PM α)(Q:α→PS→Prop):Prop:=∃a t,p s=some (a,t)∧Iv t∧Ad s0 t∧Q a t
theorem Tt.bnd {α β:Type}{s0 s:PS}{p:PM α}{f:α→PM β}{Q:α→PS→Prop}{R:β→PS→Prop}(h:Tt s0 s p Q)(g:∀a t,Iv t→Ad s0 t→Q a t→Tt s0 t (f a) R):Tt s0 s (p.bnd f) R:=by
 obtain⟨a,t,h1,h2,h3,h4⟩:=h;obtain⟨b,u,g1,g2,g3,g4⟩:=g a t h2 h3 h4;exact⟨b,u,by simp only[PM.bnd,h1,g1],g2,g3,g4⟩
theorem Tt.of {α:Type}{s0 s:PS}{p:PM α}{Q R:α→PS→Prop}(a:Ad s0 s)(h:Tt s s p Q)(g:∀a t,Ad s t→Q a t→R a t):Tt s0 s p R:=by
 obtain⟨x,t,h1,h2,h3,h4⟩:=h;exact⟨x,t,h1,h2,a.trans h3,g x t h3 h4⟩
theorem Tt.imp {α:Type}{s0 s:PS}{p:PM α}{Q R:α→PS→Prop}(h:Tt s0 s p Q)(g:∀a t,Iv t→Ad s0 t→Q a t→R a t):Tt s0 s p R:=by
 obtain⟨x,t,h1,h2,h3,h4⟩:=h;exact⟨x,t,h1,h2,h3,g x t h2 h3 h4⟩
theorem Tt.ret {α:Type}{s0 s:PS}{a:α}{Q:α→PS→Prop}(i:Iv s)(h:Ad s0 s)(q:Q a s):Tt s0 s (PM.ret a) Q:=⟨a,s,rfl,i,h,q⟩
theorem Tt.cnd {α:Type}{s0 s:PS}{c:PS→Bool}{p q:PM α}{Q:α→PS→Prop}(i:Iv s)(h:c s=true→Tt s0 s p Q)(g:c s=false→Tt s0 s q Q):Tt s0 s (cnd c p q) Q:=by
 unfold Tt Go.Ab.cnd;rw[i.sz,cond_true];cases hc:c s with
 |true=>exact h hc
 |false=>exact g hc
theorem Tt.cok {α:Type}{s0 s:PS}{p q:PM α}{Q:α→PS→Prop}(h:s.ok=true→Tt s0 s p Q)(g:s.ok=false→Tt s0 s q Q):Tt s0 s (cok p q) Q:=by
 unfold Tt Go.Ab.cok;cases hc:s.ok with
 |true=>exact h hc
 |false=>exact g hc
theorem Tt.fnO {α:Type}{s0 s:PS}{l:List (List Nat)}{p:PM α}{f:List Nat→PM α}{Q:α→PS→Prop}(i:Iv s)(h:Tt s0 s p Q)(g:∀o,s.is o=true→Tt s0 s (f o) Q):Tt s0 s (fnO l p f) Q:=by
 unfold Tt Go.Ab.fnO;rw[i.sz,cond_true];cases hc:l.find? s.is with
 |none=>exact h
 |some o=>exact g o (by have:=List.find?_some hc;simpa using this)
theorem Ua (s:PS):s.up.ok=s.ok:=rfl
theorem li (s:PS){e:Int}(he:e≠0):(s.fail e).ok=false:=by
 unfold PS.fail;cases h:s.ok with
 |false=>exact h
 |true=>exact UX he
theorem lj (s:PS)(e:Int):(s.fail e).tk=s.tk∧(s.fail e).en=s.en∧(s.fail e).ps=s.ps∧(s.fail e).nd=s.nd∧(s.fail e).ne=s.ne∧(s.fail e).tt=s.tt:=by
 unfold PS.fail;cases s.ok<;>exact⟨rfl,rfl,rfl,rfl,rfl,rfl⟩
theorem Iv.fail {s:PS}(h:Iv s)(e:Int):Iv (s.fail e):=by
 obtain⟨h1,h2,h3,h4,-,-⟩:=lj s e;exact⟨by have:=h.sz;unfold PS.sz at this ⊢;rw[h1,h3];exact this,by rw[h1];exact h.len,by rw[h3,h4];exact h.nd,by rw[h4];exact h.wf⟩
theorem et (s:PS){e:Int}(he:e≠0):Ad s (s.fail e):=by
 obtain⟨h1,h2,h3,h4,-,-⟩:=lj s e;exact⟨h1,h2,by omega,fun k=>(by rw[li s he]at k;cases k),by rw[h4];exact Nat.le_refl _,by rw[h3,h4];exact Nat.le_refl _⟩
theorem lm {s:PS}{x:List Nat}(h:s.is x=true):s.ok=true:=by
 cases hk:s.ok with
 |true=>rfl
 |false=>
  unfold PS.is PS.peek at h;rw[hk]at h;cases h
theorem wB {s:PS}{i:Nat}(h:(s.peek i).k≠0):s.ok=true:=by
 cases hk:s.ok with
 |true=>rfl
 |false=>
  unfold PS.peek at h;rw[hk]at h;exact absurd rfl h
theorem Iv.up {s:PS}(h:Iv s)(hp:s.ps<s.tk.length):Iv s.up:=by
 obtain⟨h1,h2,h3⟩:=qv h.sz;refine⟨?_,h.len,by have:=h.nd;show s.nd.length≤s.ps+1;omega,h.wf⟩
 have:=h.sz;unfold PS.sz at this ⊢
 simp only[lβ,lγ]at this ⊢
 exact⟨by show s.ps+1≤s.tk.length;omega,this.2⟩
theorem pk (s:PS):Ad s s.up:=⟨rfl,rfl,Nat.le_succ _,id,Nat.le_refl _,by show s.nd.length+s.ps≤s.nd.length+(s.ps+1);omega⟩
theorem Iv.ne {s:PS}(h:Iv s)(k:Int):Iv {s with ne:=k}:=⟨h.sz,h.len,h.nd,h.wf⟩
theorem QN {s t:PS}(h:Ad s t)(k:Int):Ad s {t with ne:=k}:=⟨h.tk,h.en,h.ps,h.ok,h.nd,h.de⟩
structure HJ (s t:PS):Prop where
 inv:Iv t
 ad:Ad s t
 st:t.ok=true→t.ps=s.ps+1
 nd:t.nd=s.nd
structure Lf (s t:PS):Prop where
 ad:Ad s t
 st:t.ok=true→t.ps=s.ps+1
 nd:t.nd=s.nd
theorem MA {s:PS}(h:Iv s)(hp:s.ps<s.tk.length):HJ s s.up:=⟨h.up hp,pk s,fun _=>rfl,rfl⟩
theorem Aq {s:PS}(h:Iv s){e:Int}(he:e≠0):HJ s (s.fail e):=⟨h.fail e,et s he,fun k=>(by rw[li s he]at k;cases k),(lj s e).2.2.2.1⟩
theorem Ap {s:PS}(h:Iv s)(x:List Nat):HJ s (s.exp x):=by
 unfold PS.exp;cases hx:s.is x with
 |true=>exact MA h (dr h.sz hx)
 |false=>exact Aq h (by decide)
theorem HJ.ne {s t:PS}(h:HJ s t)(k:Int):HJ s {t with ne:=k}:=⟨h.inv.ne k,QN h.ad k,h.st,h.nd⟩
theorem PO {s:PS}(h:Iv s)(x:List Nat):HJ s (s.open x):=by
 unfold PS.open PS.opn1;refine HJ.ne ?_ _;cases hb:(s.is x&&eqI s.ne 24)with
 |false=>exact Ap h x
 |true=>
  rw[cond_true];have g:=Ap (h.fail 5) x;have hf:=et s (e:=5) (by decide);exact⟨g.inv,hf.trans g.ad,fun k=>(by have:=g.ad.ok k;rw[li s (by decide)]at this;cases this),g.nd.trans (lj s 5).2.2.2.1⟩
theorem Mz {s:PS}(h:Iv s)(x:List Nat):HJ s (s.close x):=HJ.ne (Ap h x) _
theorem PP {s:PS}(h:Iv s){k:Int}(hk:k≠0):HJ s (s.take k).2:=by
 unfold PS.take;cases hx:eqI (s.peek 0).k k with
 |true=>
  rw[dJ,lγ]at hx;exact MA h (ju h.sz 0 (by rw[hx];exact hk))
 |false=>exact Aq h (by decide)
theorem GI:∀(l:List (List Nat)) (i:Int) {s:PS},Iv s→HJ s (ck l i s).2
 |[],i,s,h=>Aq h (by decide)
 |x::r,i,s,h=>by
  unfold ck;cases hx:s.is x with
  |true=>exact MA h (dr h.sz hx)
  |false=>exact GI r (i+1) h
theorem Tt.lf {α:Type}{s0 s:PS}{g:PS→α×PS}(i:Iv s)(a:Ad s0 s)(h:HJ s (g s).2):Tt s0 s (lf g) (fun _ t=>Lf s t):=by
 refine⟨(g s).1,(g s).2,?_,h.inv,a.trans h.ad,⟨h.ad,h.st,h.nd⟩⟩;unfold Go.Ab.lf;rw[i.sz,cond_true]
theorem Tt.up {s0 s:PS}(i:Iv s)(a:Ad s0 s)(h:s.ps<s.tk.length):Tt s0 s pUp (fun _ t=>Lf s t∧t.ps=s.ps+1):=by
 refine⟨(),s.up,?_,i.up h,a.trans (pk s),⟨pk s,fun _=>rfl,rfl⟩,rfl⟩
 unfold pUp Go.Ab.lf;rw[i.sz,cond_true]
theorem Tt.exp {s0 s:PS}(i:Iv s)(a:Ad s0 s)(x:List Nat):Tt s0 s (fd x) (fun _ t=>Lf s t):=Tt.lf i a (Ap i x)
theorem Tt.opn {s0 s:PS}(i:Iv s)(a:Ad s0 s)(x:List Nat):Tt s0 s (lD x) (fun _ t=>Lf s t):=Tt.lf i a (PO i x)
theorem Tt.cls {s0 s:PS}(i:Iv s)(a:Ad s0 s)(x:List Nat):Tt s0 s (hD x) (fun _ t=>Lf s t):=Tt.lf i a (Mz i x)
theorem Tt.take {s0 s:PS}(i:Iv s)(a:Ad s0 s){k:Int}(hk:k≠0):Tt s0 s (j6 k) (fun _ t=>Lf s t):=Tt.lf i a (PP i hk)
theorem Tt.kind {s0 s:PS}(i:Iv s)(a:Ad s0 s):Tt s0 s pKind (fun _ t=>Lf s t):=Tt.lf i a (GI kindL 1 i)
theorem Tt.fail {s0 s:PS}(i:Iv s)(a:Ad s0 s){e:Int}(he:e≠0):Tt s0 s (sE e) (fun _ t=>Ad s t∧t.ok=false):=by
 refine⟨(),s.fail e,?_,i.fail e,a.trans (et s he),et s he,li s he⟩;unfold sE Go.Ab.lf;rw[i.sz,cond_true]
theorem Tt.nam {s0 s:PS}(i:Iv s)(a:Ad s0 s):Tt s0 s pName (fun _ t=>Lf s t):=
 (Tt.take i a (by decide)).bnd fun k t i a h=>Tt.ret i a h
theorem Tt.pek {s0 s:PS}(i:Iv s)(a:Ad s0 s):Tt s0 s pPeek (fun x t=>x=s.peek 0∧t=s):=by
 refine⟨s.peek 0,s,?_,i,a,rfl,rfl⟩;unfold pPeek Go.Ab.lf;rw[i.sz,cond_true]
theorem Tt.int {s0 s:PS}(i:Iv s)(a:Ad s0 s):Tt s0 s pInt (fun _ t=>Ad s t∧(t.ok=true→s.ps<t.ps)):=by
 refine Tt.cnd i (fun hc=>?_) (fun hc=>?_)
 ·refine(Tt.up i a (dr i.sz hc)).bnd fun _ t i1 a1 h1=>?_
  refine(Tt.take i1 a1 (by decide)).bnd fun k u i2 a2 h2=>Tt.ret i2 a2 ⟨h1.1.ad.trans h2.ad,fun k=>?_⟩
  have:=h2.ad.ps;have:=h1.2;omega
 ·exact(Tt.take i a (by decide)).bnd fun k u i2 a2 h2=>Tt.ret i2 a2 ⟨h2.ad,fun k=>by have:=h2.st k;omega⟩
def Ix (a:Int)(t:PS):Prop:=t.ok=true→0≤a∧a<(t.nd.length:Int)
theorem Ix.mono {a:Int}{s t:PS}(h:Ix a s)(g:Ad s t):Ix a t:=fun k=>by have:=h (g.ok k);have:=g.nd;omega
theorem Tt.add {s0 s:PS}{x:No}(i0:Iv s0)(i:Iv s)(a:Ad s0 s)(hsl:s.ok=true→s.nd.length+s0.ps+1≤s0.nd.length+s.ps)(hk:s.ok=true→kO s.nd.length x.kids)(hl:x.kids.length<10000):
  Tt s0 s (dX x) (fun b t=>Ix b t∧t.ps=s.ps∧t.ok=s.ok∧(t.ok=true→s.nd.length<t.nd.length)):=by
 have h1:=i.nd;have h2:=i.le;have h3:=i.len;unfold Tt dX;rw[mτ (show s.nd.length<1000000 by omega),mτ (show x.kids.length<1000000 by omega),Bool.and_self,cond_true];unfold PS.add;cases hs:s.ok with
 |false=>exact⟨0,s,rfl,i,a,⟨fun k=>(by rw[hs]at k;cases k),rfl,hs,fun k=>(by rw[hs]at k;cases k)⟩⟩
 |true=>
  have hsl:=hsl hs;have hk:=hk hs;have hps:=a.ps;have hle:(s.nd++[x]).length=s.nd.length+1:=by rw[lπ,List.length_singleton]
  refine⟨(s.nd.length:Int),{s with nd:=s.nd++[x]},rfl,⟨i.sz,i.len,?_,?_⟩,⟨a.tk,a.en,a.ps,a.ok,?_,?_⟩,fun k=>?_,rfl,hs,fun k=>?_⟩
  ·show(s.nd++[x]).length≤s.ps;rw[hle];have:=a.de;have:=a.nd;have:=i0.nd;omega
  ·intro y hy;show kO (s.nd++[x]).length y.kids∧_;rw[hle];rcases mη.1 hy with hy|hy
   ·exact⟨fun k hk=>by have:=(i.wf y hy).1 k hk;omega,(i.wf y hy).2⟩
   ·simp only[List.mem_singleton]at hy;subst hy;exact⟨fun k hk'=>by have:=hk k hk';omega,hl⟩
  ·show s0.nd.length≤(s.nd++[x]).length;rw[hle];have:=a.nd;omega
  ·show(s.nd++[x]).length+s0.ps≤s0.nd.length+s.ps;rw[hle];omega
  ·show 0≤(s.nd.length:Int)∧(s.nd.length:Int)<((s.nd++[x]).length:Int);rw[hle];omega
  ·show s.nd.length<(s.nd++[x]).length;rw[hle];omega
end
end Go.Ab
end
section
namespace Go.Ab
open Go
set_option maxRecDepth 100000
noncomputable section
def PS.rem (s:PS):Nat:=s.tk.length - s.ps
theorem Ad.rem {s t:PS}(h:Ad s t):t.rem≤s.rem:=by have:=h.ps;unfold PS.rem;rw[h.tk];omega
theorem Ad.rem1 {s t:PS}(h:Ad s t)(i:Iv t)(g:s.ps<t.ps):t.rem+1≤s.rem:=by have:=i.le;unfold PS.rem;rw[h.tk]at*;omega
def Tot {α:Type}(b:Nat)(p:PM α)(Q:α→PS→Prop):Prop:=∀s,Iv s→s.rem≤b→Tt s s p (fun a t=>Q a t∧(t.ok=true→s.ps<t.ps))
abbrev eq (b:Nat)(p:PM Int):Prop:=Tot b p Ix
theorem Tot.le {α:Type}{b c:Nat}{p:PM α}{Q:α→PS→Prop}(h:Tot b p Q)(hc:c≤b):Tot c p Q:=fun s i hr=>h s i (by omega)
theorem Tt.snoc {α:Type}{s0 s:PS}{p:PM α}{l:List α}{Q:α→PS→Prop}(h:Tt s0 s p Q)(hl:l.length<1000000):Tt s0 s (snoc p l) (fun l' t=>∃x,l'=l++[x]∧Q x t):=by
 obtain⟨x,t,h1,h2,h3,h4⟩:=h;refine⟨l++[x],t,?_,h2,h3,x,rfl,h4⟩;unfold Go.Ab.snoc;simp only[PM.bnd,h1,mτ hl,cond_true]
def Rw {α:Type}(Q:α→PS→Prop)(l:List α)(t:PS):Prop:=l.length≤t.ps+1∧∀x∈l,Q x t
theorem Mh {α:Type}{b:Nat}{begins:PS→Bool}{p:PM α}{most:Nat}{Q:α→PS→Prop}(hQ:∀x s t,Q x s→Ad s t→Q x t)(hp:Tot b p Q):∀(q n:Nat) (l:List α) (s0 s:PS),Iv s→Ad s0 s→s.rem+1≤q→s.rem≤b→l.length≤s.ps→(∀x∈l,Q x s)→
  Tt s0 s (oz begins (snoc p) most q n l) (Rw Q)
 |0,n,l,s0,s,i,a,h1,_,_,_=>by omega
 |q+1,n,l,s0,s,i,a,h1,h2,h3,h4=>by
  have h6:=i.le;have h7:=i.len;unfold oz;refine Tt.cok (fun hk=>?_) (fun hk=>Tt.ret i a ⟨by omega,h4⟩);have hg:Iv (bif !begins s then s.fail 13 else bif Nat.beq n most then s.fail 5 else s)∧Ad s (bif !begins s then s.fail 13 else bif Nat.beq n most then s.fail 5 else s)∧(bif !begins s then s.fail 13 else bif Nat.beq n most then s.fail 5 else s).ps=s.ps:=by
   cases begins s with
   |false=>exact⟨i.fail 13,et s (by decide),(lj s 13).2.2.1⟩
   |true=>
    cases Nat.beq n most with
    |true=>exact⟨i.fail 5,et s (by decide),(lj s 5).2.2.1⟩
    |false=>exact⟨i,Ad.refl s,rfl⟩
  have hlf:Tt s0 s (lf fun s=>((),bif !begins s then s.fail 13 else bif Nat.beq n most then s.fail 5 else s)) (fun _ t=>t=(bif !begins s then s.fail 13 else bif Nat.beq n most then s.fail 5 else s)):=by
   refine⟨(),_,?_,hg.1,a.trans hg.2.1,rfl⟩;unfold lf;rw[i.sz,cond_true]
  refine hlf.bnd fun _ s1 i1 a1 e1=>?_
  obtain⟨g1,g2,g3⟩:=hg;rw[←e1]at g1 g2 g3;have hr1:=g2.rem;refine(Tt.snoc (Tt.of a1 (hp s1 i1 (by omega)) fun x t ha hx=>And.intro hx ha) (by omega)).bnd fun l' s2 i2 a2 h5=>?_
  obtain⟨x,rfl,⟨hx,hps⟩,ha⟩:=h5;have hq2:∀y∈l++[x],Q y s2:=fun y hy=>by
   rcases mη.1 hy with hy|hy
   ·exact hQ y _ _ (h4 y hy) (g2.trans ha)
   ·simp only[List.mem_singleton]at hy;subst hy;exact hx
  have hpsa:=ha.ps;refine Tt.cnd i2 (fun hc=>?_) (fun hc=>Tt.ret i2 a2 ⟨by rw[lπ,List.length_singleton];omega,hq2⟩);have hok:=lm hc;have hps:=hps hok;refine(Tt.up i2 a2 (dr i2.sz hc)).bnd fun _ s3 i3 a3 h6=>?_
  have hr3:=h6.1.ad.rem1 i3 (by omega);have hr2:=ha.rem;exact Mh hQ hp q (n+1) (l++[x]) s0 s3 i3 a3 (by omega) (by omega) (by rw[lπ,List.length_singleton];omega) (fun y hy=>hQ y _ _ (hq2 y hy) h6.1.ad)
theorem tP {α:Type}{b:Nat}{begins:PS→Bool}{p:PM α}{most q:Nat}{Q:α→PS→Prop}(hQ:∀x s t,Q x s→Ad s t→Q x t)(hp:Tot b p Q){s0 s:PS}(i:Iv s)(a:Ad s0 s)(hq:s.rem+1≤q)(hb:s.rem≤b):
  Tt s0 s (Gx begins (snoc p) most q []) (Rw Q):=by
 unfold Gx;exact Tt.cnd i (fun _=>Tt.ret i a ⟨by simp,by simp⟩) fun _=>Mh hQ hp q 0 [] s0 s i a hq hb (by simp) (by simp)
theorem CT {b:Nat}{ex:PM Int}{ops:List (List Nat)}(he:eq b ex):∀(q:Nat) (x:Int) (s0 s:PS),Iv s0→Iv s→Ad s0 s→Ix x s→s.rem+1≤q→s.rem≤b→(s.ok=true→s0.ps<s.ps)→
  Tt s0 s (fR ex ops q x) (fun a t=>Ix a t∧(t.ok=true→s0.ps<t.ps))
 |0,x,s0,s,i0,i,a,hx,h1,_,_=>by omega
 |q+1,x,s0,s,i0,i,a,hx,h1,h2,h3=>by
  unfold fR;refine Tt.fnO i (Tt.ret i a ⟨hx,h3⟩) fun o ho=>?_
  refine(Tt.up i a (dr i.sz ho)).bnd fun _ s1 i1 a1 h4=>?_
  have hr1:=h4.1.ad.rem1 i1 (by omega);have hn1:s1.nd.length=s.nd.length:=by rw[h4.1.nd]
  refine(Tt.of a1 (he s1 i1 (by omega)) fun y t ha hy=>And.intro hy ha).bnd fun y s2 i2 a2 h5=>?_
  obtain⟨⟨hy,hps⟩,ha⟩:=h5;have hde:=ha.de;have hde0:=a.de;have hx2:=(hx.mono h4.1.ad).mono ha;have hps2:=ha.ps;have hr2:=ha.rem;have a0ps:=a.ps;refine(Tt.add i0 i2 a2 (fun hk=>?_) (fun hk=>?_) (by simp)).bnd fun z s3 i3 a3 h6=>?_
  ·omega
  ·intro k hk';simp only[lω,List.not_mem_nil,or_false]at hk';rcases hk' with rfl|rfl
   ·exact hx2 hk
   ·exact hy hk
  ·have hr3:s3.rem=s2.rem:=by unfold PS.rem;rw[h6.2.1,a3.tk,a2.tk]
   exact CT he q z s0 s3 i0 i3 a3 h6.1 (by omega) (by omega) (fun hk=>by rw[h6.2.1];omega)
theorem ni {b q:Nat}{ex:PM Int}(ops:List (List Nat))(he:eq b ex)(hq:b+1≤q):eq b (iW ex ops q):=by
 intro s i hr;unfold iW;refine(he s i hr).bnd fun x t i1 a1 h=>?_
 have:=a1.rem;exact CT he q x s t i i1 a1 h.1 (by omega) (by omega) h.2
theorem Nk {b:Nat}{sum:PM Int}(he:eq b sum):eq b (Nj sum):=by
 intro s i hr;unfold Nj;refine(he s i hr).bnd fun x s1 i1 a1 h=>?_
 have hr1:=a1.rem;refine Tt.fnO i1 (Tt.ret i1 a1 h) fun o ho=>?_
 refine(Tt.up i1 a1 (dr i1.sz ho)).bnd fun _ s2 i2 a2 h4=>?_
 have hr2:=h4.1.ad.rem;have hn1:s2.nd.length=s1.nd.length:=by rw[h4.1.nd]
 refine(Tt.of a2 (he s2 i2 (by omega)) fun y t ha hy=>And.intro hy ha).bnd fun y s3 i3 a3 h5=>?_
 obtain⟨⟨hy,hps⟩,ha⟩:=h5;have hde:=ha.de;have hde0:=a1.de;have hx2:=(h.1.mono h4.1.ad).mono ha;have hps3:=a3.ps;have e1:=a1.ps;refine(Tt.add i i3 a3 (fun hk=>by omega) (fun hk=>?_) (by simp)).imp fun z t _ _ h6=>⟨h6.1,fun hk=>by rw[h6.2.1];rw[h6.2.2.1]at hk;have:=hps hk;omega⟩
 intro k hk';simp only[lω,List.not_mem_nil,or_false]at hk';rcases hk' with rfl|rfl
 ·exact hx2 hk
 ·exact hy hk
theorem Rw.le {α:Type}{Q:α→PS→Prop}{l:List α}{t:PS}(h:Rw Q l t)(i:Iv t):l.length≤6001:=by have:=h.1;have:=i.le;have:=i.len;omega
theorem rM {b q:Nat}{ex:PM Int}(he:eq b ex)(hq:b+1≤q){s0 s:PS}(i:Iv s)(a:Ad s0 s)(hr:s.rem≤b+1)(hr':s.ok=true→s.rem≤b+1):Tt s0 s (sD ex q) (fun l t=>Ad s t∧(t.ok=true→s.ps<t.ps)∧l.length≤6001∧∀x∈l,Ix x t):=by
 unfold sD;refine(Tt.opn i a [40]).bnd fun _ s1 i1 a1 h1=>?_
 cases hk:s1.ok with
 |true=>
  have hr1:=h1.ad.rem1 i1 (by have:=h1.st hk;omega);refine(Tt.of a1 (tP (b:=b) (Q:=Ix) (s0:=s1) (fun x s t h g=>Ix.mono h g) he i1 (Ad.refl s1) (by omega) (by omega)) fun l t ha hl=>And.intro hl ha).bnd fun l s2 i2 a2 h2=>?_
  refine(Tt.cls i2 a2 [41]).bnd fun _ s3 i3 a3 h3=>?_
  refine Tt.ret i3 a3 ⟨h1.ad.trans (h2.2.trans h3.ad),fun hk3=>?_,h2.1.le i2,fun x hx=>(h2.1.2 x hx).mono h3.ad⟩
  have:=h1.st hk;have:=h2.2.ps;have:=h3.ad.ps;omega
 |false=>
  have hn:∀x,s1.is x=false:=fun x=>by
   cases hx:s1.is x with
   |false=>rfl
   |true=>rw[lm hx]at hk;cases hk
  have e1:∀q',0<q'→Gx PS.begins (snoc ex) 16 q' [] s1=some ([],s1):=fun q' hq'=>by
   obtain⟨q',rfl⟩:∃k,q'=k+1:=⟨q' - 1,by omega⟩
   unfold Gx cnd oz cok PM.ret;simp only[i1.sz,hn,hk,cond_true,cond_false]
  have hT:Tt s0 s1 (Gx PS.begins (snoc ex) 16 q []) (fun l t=>l=[]∧t=s1):=⟨[],s1,e1 q (by omega),i1,a1,rfl,rfl⟩;refine hT.bnd fun l s2 i2 a2 h2=>?_
  obtain⟨rfl,rfl⟩:=h2;refine(Tt.cls i2 a2 [41]).bnd fun _ s3 i3 a3 h3=>?_
  exact Tt.ret i3 a3 ⟨h1.ad.trans h3.ad,fun hk3=>(by rw[h3.ad.ok hk3]at hk;cases hk),by simp,by simp⟩
theorem Ha {b:Nat}{fac:PM Int}(he:eq b fac)(o:List Nat){s:PS}(i:Iv s)(hr:s.rem≤b+1):Tt s s (Tq o fac) (fun a t=>Ix a t∧(t.ok=true→s.ps<t.ps)):=by
 unfold Tq;refine(Tt.opn i (Ad.refl s) o).bnd fun _ s1 i1 a1 h1=>?_
 have hx:Tt s s1 (cok fac (.ret 0)) (fun x t=>Ix x t∧Ad s1 t):=by
  refine Tt.cok (fun hk=>?_) (fun hk=>Tt.ret i1 a1 ⟨fun k=>(by rw[hk]at k;cases k),Ad.refl s1⟩);have hr1:=h1.ad.rem1 i1 (by have:=h1.st hk;omega);exact Tt.of a1 (he s1 i1 (by omega)) fun x t ha hx=>⟨hx.1,ha⟩
 refine hx.bnd fun x s2 i2 a2 h2=>?_
 have hd:Tt s s2 pDec (fun _ t=>t={s2 with ne:=ao .i64 (s2.ne - 1)}):=⟨(),_,rfl,i2.ne _,QN a2 _,rfl⟩;refine hd.bnd fun _ s3 i3 a3 h3=>?_
 subst h3;have hde:=h2.2.de;have hde1:=a1.de;have hps:=h2.2.ps;refine(Tt.add i i3 a3 (fun hk=>?_) (fun hk=>?_) (by simp)).imp fun z t _ _ h6=>⟨h6.1,fun hk=>?_⟩
 ·have:=h1.st (h2.2.ok hk);have hn1:s1.nd.length=s.nd.length:=by rw[h1.nd]
  show s2.nd.length+s.ps+1≤s.nd.length+s2.ps;omega
 ·intro k hk';simp only[lω,List.not_mem_nil,or_false]at hk';subst hk';exact h2.1 hk
 ·rw[h6.2.1];rw[h6.2.2.1]at hk;have:=h1.st (h2.2.ok hk);show s.ps<s2.ps;omega
end
end Go.Ab
end
section
namespace Go.Ab
open Go
set_option maxRecDepth 100000
noncomputable section
theorem Tt.addE {s0 s:PS}{x:No}(i0:Iv s0)(i:Iv s)(a:Ad s0 s)(hsl:s.ok=true→s.nd.length+s0.ps+1≤s0.nd.length+s.ps)(hk:s.ok=true→kO s.nd.length x.kids)(hl:x.kids.length<10000):
  Tt s0 s (dX x) (fun b t=>Ix b t∧(t.ok=true→s0.ps<t.ps)):=
 (Tt.add i0 i a hsl hk hl).imp fun z t _ _ h6=>⟨h6.1,fun hk=>by rw[h6.2.2.1]at hk;have:=hsl hk;have:=a.nd;rw[h6.2.1];omega⟩
theorem Nm {b:Nat}{fac pr:PM Int}(hf:eq b fac)(hp:eq (b+1) pr):eq (b+1) (FA fac pr):=by
 intro s i hr;unfold FA;exact Tt.cnd i (fun _=>Ha hf _ i hr) fun _=>Tt.cnd i (fun _=>Ha hf _ i hr) fun _=>hp s i hr
theorem VN {s:PS}(hk:s.ok=false)(x:List Nat):s.is x=false:=by
 cases hx:s.is x with
 |false=>rfl
 |true=>rw[lm hx]at hk;cases hk
theorem Jg {b q:Nat}{ex:PM Int}(he:eq b ex)(hq:b+1≤q):eq (b+1) (nH ex q):=by
 intro s i hr;unfold nH;have a0:=Ad.refl s;have kz:∀{k:Int},k≠0→eqI (s.peek 0).k k=true→s.ps<s.tk.length:=fun hk h=>by
  rw[dJ,lγ]at h;exact ju i.sz 0 (by rw[h];exact hk)
 have lit:∀(x:No),x.kids=[]→∀(h:s.ps<s.tk.length),Tt s s (pUp.bnd fun _=>dX x) (fun a t=>Ix a t∧(t.ok=true→s.ps<t.ps)):=fun x hx h=>by
  refine(Tt.up i a0 h).bnd fun _ s1 i1 a1 h1=>?_
  refine Tt.addE i i1 a1 (fun _=>?_) (fun _ k hk=>?_) (by rw[hx];simp)
  ·have:=h1.2;rw[h1.1.nd];omega
  ·rw[hx]at hk;cases hk
 refine Tt.cnd i (fun hc=>?_) fun hc=>?_
 ·rw[lβ]at hc;refine(Tt.pek i a0).bnd fun x s1 i1 a1 h1=>?_
  obtain⟨rfl,rfl⟩:=h1;exact lit _ rfl (kz (by decide) hc.1)
 refine Tt.cnd i (fun hc=>?_) fun hc=>?_
 ·have hp:s.ps<s.tk.length:=by
   rw[mρ,mρ]at hc;rcases hc with h|h|h
   ·exact kz (by decide) h
   ·exact dr i.sz h
   ·exact dr i.sz h
  refine(Tt.pek i a0).bnd fun x s1 i1 a1 h1=>?_
  obtain⟨rfl,rfl⟩:=h1;refine(Tt.up i1 a1 hp).bnd fun _ s2 i2 a2 h2=>?_
  have hr2:=h2.1.ad.rem1 i2 (by have:=h2.2;omega);refine(rM he hq i2 a2 (by omega) (fun _=>by omega)).bnd fun l s3 i3 a3 h3=>?_
  have hde:=h3.1.de;refine Tt.addE i1 i3 a3 (fun _=>?_) (fun hk k hk'=>h3.2.2.2 k hk' hk) (by have:=h3.2.2.1;simp only[];omega);have:=h2.2;have hn:s2.nd.length=s1.nd.length:=by rw[h2.1.nd]
  omega
 refine Tt.cnd i (fun hc=>?_) fun hc=>?_
 ·refine(Tt.pek i a0).bnd fun x s1 i1 a1 h1=>?_
  obtain⟨rfl,rfl⟩:=h1;exact lit _ rfl (kz (by decide) hc)
 refine Tt.cnd i (fun hc=>?_) fun hc=>?_
 ·have hcst:Tt s s (ig fun _=>none) (fun v t=>t=s.up∧s.ps<s.tk.length):=by
   have hp:s.ps<s.tk.length:=by
    rw[mρ,mρ]at hc;rcases hc with h|h|h
    ·exact kz (by decide) h
    ·exact dr i.sz h
    ·exact dr i.sz h
   have L:∀g:PS→Va,Tt s s (lf fun s=>(g s,s.up)) (fun v t=>t=s.up∧s.ps<s.tk.length):=fun g=>by
    refine⟨g s,s.up,?_,i.up hp,pk s,rfl,hp⟩;unfold lf;rw[i.sz,cond_true]
   unfold ig;refine Tt.cnd i (fun h1=>L _) fun h1=>Tt.cnd i (fun h2=>L _) fun h2=>Tt.cnd i (fun h3=>L _) fun h3=>?_
   rw[h1,h2,h3]at hc;cases hc
  refine hcst.bnd fun v s1 i1 a1 h1=>?_
  obtain⟨rfl,hp⟩:=h1;refine Tt.addE i i1 a1 (fun _=>?_) (fun _ k hk=>by cases hk) (by simp);show s.nd.length+s.ps+1≤s.nd.length+(s.ps+1);omega
 refine Tt.cnd i (fun hc=>lit _ rfl (dr i.sz hc)) fun hc=>?_
 refine Tt.cnd i (fun hc=>?_) fun hc=>?_
 ·refine(Tt.opn i a0 _).bnd fun _ s1 i1 a1 h1=>?_
  have hx:Tt s s1 (cok ex (.ret 0)) (fun x t=>Ix x t∧Ad s1 t):=by
   refine Tt.cok (fun hk=>?_) (fun hk=>Tt.ret i1 a1 ⟨fun k=>(by rw[hk]at k;cases k),Ad.refl s1⟩);have hr1:=h1.ad.rem1 i1 (by have:=h1.st hk;omega);exact Tt.of a1 (he s1 i1 (by omega)) fun x t ha hx=>⟨hx.1,ha⟩
  refine hx.bnd fun x s2 i2 a2 h2=>?_
  refine(Tt.cls i2 a2 _).bnd fun _ s3 i3 a3 h3=>?_
  refine Tt.ret i3 a3 ⟨h2.1.mono h3.ad,fun hk=>?_⟩
  have:=h1.st (h2.2.ok (h3.ad.ok hk));have:=h2.2.ps;have:=h3.ad.ps;omega
 ·refine(Tt.fail i a0 (by decide)).bnd fun _ s1 i1 a1 h1=>?_
  exact Tt.ret i1 a1 ⟨fun k=>(by rw[h1.2]at k;cases k),fun k=>(by rw[h1.2]at k;cases k)⟩
theorem Af {q:Nat}:∀(b:Nat),b+1≤q→∀lvl,lvl≤6→∀f,7*b+(7 - lvl)≤f→eq b (pK q f lvl)
 |b,hq=>by
  -- the innermost first
  have lo:∀f,7*b+1≤f→eq b (pK q f 6):=by
   intro f hf;obtain⟨f,rfl⟩:∃k,f=k+1:=⟨f - 1,by omega⟩
   show eq b (nH (pK q f 0) q);cases b with
   |zero=>
    intro s i hr;have hps:¬s.ps<s.tk.length:=by unfold PS.rem at hr;omega
    have n0:∀x,s.is x=false:=fun x=>by
     cases hx:s.is x with
     |false=>rfl
     |true=>exact absurd (dr i.sz hx) hps
    have n1:s.peek 0=tk0:=by
     unfold PS.peek;rw[lδ (by omega)];cases s.ok<;>rfl
    have e:nH (pK q f 0) q s=((sE 13).bnd fun _=>PM.ret 0) s:=by
     unfold nH cnd;simp only[i.sz,cond_true,n0,n1];rfl
    unfold Tt;rw[e];refine(Tt.fail i (Ad.refl s) (by decide)).bnd fun _ s1 i1 a1 h1=>?_
    exact Tt.ret i1 a1 ⟨fun k=>(by rw[h1.2]at k;cases k),fun k=>(by rw[h1.2]at k;cases k)⟩
   |succ b=>exact Jg (Af b (by omega) 0 (by omega) f (by omega)) (by omega)
  have l5:∀f,7*b+2≤f→eq b (pK q f 5):=by
   intro f hf;obtain⟨f,rfl⟩:∃k,f=k+1:=⟨f - 1,by omega⟩
   show eq b (FA (pK q f 5) (pK q f 6));cases b with
   |zero=>
    intro s i hr;have hps:¬s.ps<s.tk.length:=by unfold PS.rem at hr;omega
    have n0:∀x,s.is x=false:=fun x=>by
     cases hx:s.is x with
     |false=>rfl
     |true=>exact absurd (dr i.sz hx) hps
    unfold FA;exact Tt.cnd i (fun h=>by rw[n0]at h;cases h) fun _=>Tt.cnd i (fun h=>by rw[n0]at h;cases h) fun _=>lo f (by omega) s i hr
   |succ b=>exact Nm (Af b (by omega) 5 (by omega) f (by omega)) (lo f (by omega))
  have l4:∀f,7*b+3≤f→eq b (pK q f 4):=by
   intro f hf;obtain⟨f,rfl⟩:∃k,f=k+1:=⟨f - 1,by omega⟩
   exact ni _ (l5 f (by omega)) hq
  have l3:∀f,7*b+4≤f→eq b (pK q f 3):=by
   intro f hf;obtain⟨f,rfl⟩:∃k,f=k+1:=⟨f - 1,by omega⟩
   exact ni _ (l4 f (by omega)) hq
  have l2:∀f,7*b+5≤f→eq b (pK q f 2):=by
   intro f hf;obtain⟨f,rfl⟩:∃k,f=k+1:=⟨f - 1,by omega⟩
   exact Nk (l3 f (by omega))
  have l1:∀f,7*b+6≤f→eq b (pK q f 1):=by
   intro f hf;obtain⟨f,rfl⟩:∃k,f=k+1:=⟨f - 1,by omega⟩
   exact ni _ (l2 f (by omega)) hq
  have l0:∀f,7*b+7≤f→eq b (pK q f 0):=by
   intro f hf;obtain⟨f,rfl⟩:∃k,f=k+1:=⟨f - 1,by omega⟩
   exact ni _ (l1 f (by omega)) hq
  intro lvl hl f hf;match lvl,hl,hf with
  |0,_,hf=>exact l0 f (by omega)
  |1,_,hf=>exact l1 f (by omega)
  |2,_,hf=>exact l2 f (by omega)
  |3,_,hf=>exact l3 f (by omega)
  |4,_,hf=>exact l4 f (by omega)
  |5,_,hf=>exact l5 f (by omega)
  |6,_,hf=>exact lo f (by omega)
end
end Go.Ab
end
section
namespace Go.Ab
open Go
set_option maxRecDepth 100000
noncomputable section
def Cs (s t:PS):Prop:=t.ok=true→s.ps<t.ps
theorem Cs.then {a b c:PS}(h:Cs a b)(g:Ad b c):Cs a c:=fun k=>by have:=h (g.ok k);have:=g.ps;omega
theorem Lf.cs {s t:PS}(h:Lf s t):Cs s t:=fun k=>by have:=h.st k;omega
theorem Tot.at {α:Type}{b:Nat}{p:PM α}{Q:α→PS→Prop}(h:Tot b p Q){s0 s:PS}(i:Iv s)(a:Ad s0 s)(hr:s.rem≤b):Tt s0 s p (fun x t=>Q x t∧Cs s t∧Ad s t):=
 Tt.of a (h s i hr) fun x t ha hx=>⟨hx.1,hx.2,ha⟩
theorem Je {b q:Nat}{ex:PM Int}(he:eq b ex)(hq:b+1≤q){s0 s:PS}(i:Iv s)(a:Ad s0 s)(hr:s.rem≤b):Tt s s (qk ex q) (fun x t=>Ix x t∧Cs s t):=by
 unfold qk;refine(Tt.exp i (Ad.refl s) _).bnd fun _ s1 i1 a1 h1=>?_
 refine(Tt.nam i1 a1).bnd fun n s2 i2 a2 h2=>?_
 refine(Tt.opn i2 a2 _).bnd fun _ s3 i3 a3 h3=>?_
 refine(he.at i3 a3 (by have:=a3.rem;omega)).bnd fun key s4 i4 a4 h4=>?_
 refine(Tt.cls i4 a4 _).bnd fun _ s5 i5 a5 h5=>?_
 refine(Tt.exp i5 a5 _).bnd fun _ s6 i6 a6 h6=>?_
 refine(Tt.nam i6 a6).bnd fun nm s7 i7 a7 h7=>?_
 refine(rM he hq i7 a7 (by have:=a7.rem;omega) (fun _=>by have:=a7.rem;omega)).bnd fun l s8 i8 a8 h8=>?_
 have g:=h8.1;have d1:s1.nd.length=s.nd.length:=by rw[h1.nd]
 have d2:s2.nd.length=s1.nd.length:=by rw[h2.nd]
 have d3:s3.nd.length=s2.nd.length:=by rw[h3.nd]
 have d4:=h4.2.2.de;have d5:s5.nd.length=s4.nd.length:=by rw[h5.nd]
 have d6:s6.nd.length=s5.nd.length:=by rw[h6.nd]
 have d7:s7.nd.length=s6.nd.length:=by rw[h7.nd]
 have d8:=h8.1.de;have p4:=h4.2.2.ps;refine Tt.addE i i8 a8 (fun hk=>?_) (fun hk=>?_) (by have:=h8.2.2.1;simp only[List.length_cons];omega)
 ·have k7:=g.ok hk;have k6:=h7.ad.ok k7;have k5:=h6.ad.ok k6;have k4:=h5.ad.ok k5;have k3:=h4.2.2.ok k4;have k2:=h3.ad.ok k3;have k1:=h2.ad.ok k2;have:=h1.st k1;have:=h2.st k2;have:=h3.st k3;have:=h5.st k5;have:=h6.st k6;have:=h7.st k7;omega
 ·intro k hk';rcases lω.1 hk' with rfl|hk'
  ·exact(((h4.1.mono h5.ad).mono h6.ad).mono h7.ad).mono g hk
  ·exact h8.2.2.2 k hk' hk
theorem wy {b q:Nat}{ex:PM Int}(he:eq b ex)(hq:b+1≤q){s0 s:PS}(i:Iv s)(a:Ad s0 s)(hr:s.rem≤b):Tt s0 s (oQ ex q) (fun x t=>Ix x t∧Cs s t∧Ad s t):=by
 refine Tt.of a (Q:=fun x t=>Ix x t∧Cs s t) ?_ (fun x t ha hx=>⟨hx.1,hx.2,ha⟩);unfold oQ;refine(Tt.exp i (Ad.refl s) _).bnd fun _ s1 i1 a1 h1=>?_
 refine Tt.cnd i1 (fun hc=>?_) (fun hc=>?_)
 ·exact Tt.of a1 (Je he hq i1 a1 (by have:=a1.rem;omega)) fun x t ha hx=>⟨hx.1,h1.cs.then ha⟩
 ·exact Tt.of a1 (he s1 i1 (by have:=a1.rem;omega)) fun x t ha hx=>⟨hx.1,h1.cs.then ha⟩
theorem yM {b:Nat}{ex:PM Int}(he:eq b ex):∀(n:Nat) (l:List Int) (s0 s:PS),Iv s→Ad s0 s→s.rem≤b→l.length+n<100→(∀x∈l,Ix x s)→Tt s0 s (mI ex n l) (fun l' t=>Ad s t∧l'.length<100∧∀x∈l',Ix x t)
 |0,l,s0,s,i,a,hr,hl,h=>Tt.ret i a ⟨Ad.refl s,by omega,h⟩
 |n+1,l,s0,s,i,a,hr,hl,h=>by
  unfold mI;have step:∀s1,Iv s1→Ad s0 s1→Ad s s1→Tt s0 s1 ((snoc ex l).bnd (mI ex n)) (fun l' t=>Ad s t∧l'.length<100∧∀x∈l',Ix x t):=by
   intro s1 i1 a1 g1;refine(Tt.snoc (he.at i1 a1 (by have:=g1.rem;omega)) (by omega)).bnd fun l1 s2 i2 a2 h2=>?_
   obtain⟨x,rfl,hx,-,ha⟩:=h2;refine(yM he n (l++[x]) s0 s2 i2 a2 (by have:=g1.rem;have:=ha.rem;omega) (by rw[lπ,List.length_singleton];omega) fun y hy=>?_).imp fun l' t _ _ h3=>⟨(g1.trans ha).trans h3.1,h3.2⟩
   rcases mη.1 hy with hy|hy
   ·exact((h y hy).mono g1).mono ha
   ·simp only[List.mem_singleton]at hy;subst hy;exact hx
  cases l.isEmpty with
  |true=>exact step s i a (Ad.refl s)
  |false=>exact(Tt.exp i a _).bnd fun _ s1 i1 a1 h1=>step s1 i1 a1 h1.ad
theorem Np {b:Nat}{ex:PM Int}(he:eq b ex)(n:Nat)(hn:n<100){s0 s:PS}(i:Iv s)(a:Ad s0 s)(hr:s.rem≤b):Tt s0 s (AS ex n) (fun l t=>Ad s t∧l.length<100∧∀x∈l,Ix x t):=by
 unfold AS;refine(Tt.opn i a _).bnd fun _ s1 i1 a1 h1=>?_
 refine(yM he n [] s0 s1 i1 a1 (by have:=h1.ad.rem;omega) (by simp;omega) (by simp)).bnd fun l s2 i2 a2 h2=>?_
 refine(Tt.cls i2 a2 _).bnd fun _ s3 i3 a3 h3=>?_
 exact Tt.ret i3 a3 ⟨h1.ad.trans (h2.1.trans h3.ad),h2.2.1,fun x hx=>(h2.2.2 x hx).mono h3.ad⟩
theorem ww {x:No}{s0 s:PS}(i0:Iv s0)(i:Iv s)(a:Ad s0 s)(hk:s.ok=true→kO s.nd.length x.kids)(hl:x.kids.length<10000):Tt s0 s (mK x) (fun b t=>Ix b t∧Cs s0 t):=by
 unfold mK;refine(Tt.exp i a _).bnd fun _ s1 i1 a1 h1=>?_
 have d1:s1.nd.length=s.nd.length:=by rw[h1.nd]
 have d2:=a.de;refine Tt.addE i0 i1 a1 (fun k=>by have:=h1.st k;omega) (fun k=>?_) hl;rw[d1];exact hk (h1.ad.ok k)
abbrev TB (b:Nat)(p:PM Int):Prop:=eq b p
theorem yN {b:Nat}{ex bl:PM Int}(he:eq b ex)(hb:TB b bl)(op:Int){s0 s:PS}(i0:Iv s0)(i:Iv s)(a:Ad s0 s)(hr:s.rem≤b):Tt s0 s (wu op ex bl) (fun x t=>Ix x t∧Cs s0 t):=by
 unfold wu;refine(Tt.opn i a _).bnd fun _ s1 i1 a1 h1=>?_
 refine(he.at i1 a1 (by have:=h1.ad.rem;omega)).bnd fun c s2 i2 a2 h2=>?_
 refine(Tt.cls i2 a2 _).bnd fun _ s3 i3 a3 h3=>?_
 refine(hb.at i3 a3 (by have:=h1.ad.rem;have:=h2.2.2.rem;have:=h3.ad.rem;omega)).bnd fun b s4 i4 a4 h4=>?_
 have d0:=a.de;have d1:s1.nd.length=s.nd.length:=by rw[h1.nd]
 have d2:=h2.2.2.de;have d3:s3.nd.length=s2.nd.length:=by rw[h3.nd]
 have d4:=h4.2.2.de;have c4:=(h2.1.mono h3.ad).mono h4.2.2;have sl:∀s5,Ad s4 s5→s5.nd.length+s4.ps≤s4.nd.length+s5.ps→s5.ok=true→s5.nd.length+s0.ps+1≤s0.nd.length+s5.ps:=by
  intro s5 g hd hk;have k3:=h4.2.2.ok (g.ok hk);have k2:=h3.ad.ok k3;have k1:=h2.2.2.ok k2;have:=h1.st k1;have:=h3.st k3;omega
 have two:∀s5,Iv s5→Ad s0 s5→Ad s4 s5→Tt s0 s5 (dX ⟨op,[],vz,[c,b]⟩) (fun x t=>Ix x t∧Cs s0 t):=by
  intro s5 i5 a5 g;refine Tt.addE i0 i5 a5 (fun hk=>sl s5 g g.de hk) (fun hk k hk'=>?_) (by simp);simp only[lω,List.not_mem_nil,or_false]at hk';rcases hk' with rfl|rfl
  ·exact(c4.mono g) hk
  ·exact(h4.1.mono g) hk
 cases eqI op 11 with
 |false=>exact two s4 i4 a4 (Ad.refl s4)
 |true=>
  rw[cond_true];refine Tt.cnd i4 (fun hc=>?_) (fun hc=>two s4 i4 a4 (Ad.refl s4));refine(Tt.up i4 a4 (dr i4.sz hc)).bnd fun _ s5 i5 a5 h5=>?_
  refine(hb.at i5 a5 (by have:=h1.ad.rem;have:=h2.2.2.rem;have:=h3.ad.rem;have:=h4.2.2.rem;have:=h5.1.ad.rem;omega)).bnd fun e s6 i6 a6 h6=>?_
  refine Tt.addE i0 i6 a6 (fun hk=>sl s6 (h5.1.ad.trans h6.2.2) (h5.1.ad.trans h6.2.2).de hk) (fun hk k hk'=>?_) (by simp);simp only[lω,List.not_mem_nil,or_false]at hk';rcases hk' with rfl|rfl|rfl
  ·exact((c4.mono h5.1.ad).mono h6.2.2) hk
  ·exact((h4.1.mono h5.1.ad).mono h6.2.2) hk
  ·exact h6.1 hk
theorem yO {b q:Nat}{ex bl:PM Int}(he:eq b ex)(hb:TB b bl)(hq:b+1≤q):eq (b+1) (mN ex bl q):=by
 intro s i hr;have a:=Ad.refl s;unfold mN;have kz:∀{k:Int},k≠0→eqI (s.peek 0).k k=true→s.ps<s.tk.length:=fun hk h=>by
  rw[dJ,lγ]at h;exact ju i.sz 0 (by rw[h];exact hk)
 -- behind a word
 have word:∀{x:List Nat} {p:PM Int},s.is x=true→(∀s1,Iv s1→Ad s s1→s1.rem≤b→s1.nd.length=s.nd.length→s1.ps=s.ps+1→Tt s s1 p (fun x t=>Ix x t∧Cs s t))→Tt s s (pUp.bnd fun _=>p) (fun a t=>Ix a t∧(t.ok=true→s.ps<t.ps)):=by
  intro x p hx hp;refine(Tt.up i a (dr i.sz hx)).bnd fun _ s1 i1 a1 h1=>?_
  exact hp s1 i1 a1 (by have:=h1.1.ad.rem1 i1 (by have:=h1.2;omega);omega) (by rw[h1.1.nd]) h1.2
 have one:∀(o:Int) (n:List Nat) (v:Va) (x:Int) (s1:PS),Iv s1→Ad s s1→Ix x s1→Tt s s1 (mK ⟨o,n,v,[x]⟩) (fun x t=>Ix x t∧Cs s t):=fun o n v x s1 i1 a1 hx=>
  ww i i1 a1 (fun hk k hk'=>by simp only[lω,List.not_mem_nil,or_false]at hk';subst hk';exact hx hk) (by simp)
 have non:∀(o:Int) (n:List Nat) (v:Va) (s1:PS),Iv s1→Ad s s1→Tt s s1 (mK ⟨o,n,v,[]⟩) (fun x t=>Ix x t∧Cs s t):=fun o n v s1 i1 a1=>
  ww i i1 a1 (fun hk k hk'=>by cases hk') (by simp)
 have ops:∀(o:Int) (n:Nat),n<100→∀s1,Iv s1→Ad s s1→s1.rem≤b→Tt s s1 ((AS ex n).bnd fun l=>mK ⟨o,[],vz,l⟩) (fun x t=>Ix x t∧Cs s t):=fun o n hn s1 i1 a1 hr1=>
  (Np he n hn i1 a1 hr1).bnd fun l s2 i2 a2 h2=>ww i i2 a2 (fun hk k hk'=>h2.2.2 k hk' hk) (by have:=h2.2.1;simp only[];omega)
 refine Tt.cnd i (fun hc=>?_) fun hc=>?_
 ·refine word hc fun s1 i1 a1 hr1 _ _=>?_
  refine(Tt.nam i1 a1).bnd fun n s2 i2 a2 h2=>?_
  refine(Tt.exp i2 a2 _).bnd fun _ s3 i3 a3 h3=>?_
  refine(Tt.kind i3 a3).bnd fun k s4 i4 a4 h4=>?_
  refine(wy he hq i4 a4 (by have:=h2.ad.rem;have:=h3.ad.rem;have:=h4.ad.rem;omega)).bnd fun x s5 i5 a5 h5=>?_
  exact one _ _ _ x s5 i5 a5 h5.1
 refine Tt.cnd i (fun hc=>?_) fun hc=>?_
 ·have hps:=kz (by decide) hc;have hnm:Tt s s pName (fun n t=>t=s.up):=by
   refine⟨(s.peek 0).s,s.up,?_,i.up hps,pk s,rfl⟩;unfold pName j6 PM.bnd lf PS.take PM.ret;simp only[i.sz,hc,cond_true]
  refine hnm.bnd fun n s1 i1 a1 h1=>?_
  subst h1;refine(wy he hq i1 a1 (by have:=(pk s).rem1 i1 (by show s.ps<s.ps+1;omega);omega)).bnd fun x s5 i5 a5 h5=>?_
  exact one _ _ _ x s5 i5 a5 h5.1
 refine Tt.cnd i (fun hc=>?_) fun hc=>?_
 ·-- a call:it begins with a word,so its inner parts have a token less
  have hcall:Tt s s (qk ex q) (fun x t=>Ix x t∧Cs s t):=by
   unfold qk;have hup:Tt s s (fd [99,97,108,108]) (fun _ t=>t=s.up):=by
    refine⟨(),s.up,?_,i.up (dr i.sz hc),pk s,rfl⟩;unfold fd lf PS.exp;simp only[i.sz,hc,cond_true]
   have hr1:=(pk s).rem1 (i.up (dr i.sz hc)) (by show s.ps<s.ps+1;omega);refine hup.bnd fun _ s1 i1 a1 h1=>?_
   subst h1;refine(Tt.nam i1 a1).bnd fun n s2 i2 a2 h2=>?_
   refine(Tt.opn i2 a2 _).bnd fun _ s3 i3 a3 h3=>?_
   refine(he.at i3 a3 (by have:=h2.ad.rem;have:=h3.ad.rem;omega)).bnd fun key s4 i4 a4 h4=>?_
   refine(Tt.cls i4 a4 _).bnd fun _ s5 i5 a5 h5=>?_
   refine(Tt.exp i5 a5 _).bnd fun _ s6 i6 a6 h6=>?_
   refine(Tt.nam i6 a6).bnd fun nm s7 i7 a7 h7=>?_
   have hr7:s7.rem≤b:=by have:=h2.ad.rem;have:=h3.ad.rem;have:=h4.2.2.rem;have:=h5.ad.rem;have:=h6.ad.rem;have:=h7.ad.rem;omega
   refine(rM he hq i7 a7 (by omega) (fun _=>by omega)).bnd fun l s8 i8 a8 h8=>?_
   have g:=h8.1;have d0:s.up.ps=s.ps+1:=rfl;have d1:s.up.nd.length=s.nd.length:=rfl;have d2:s2.nd.length=s.up.nd.length:=by rw[h2.nd]
   have d3:s3.nd.length=s2.nd.length:=by rw[h3.nd]
   have d4:=h4.2.2.de;have d5:s5.nd.length=s4.nd.length:=by rw[h5.nd]
   have d6:s6.nd.length=s5.nd.length:=by rw[h6.nd]
   have d7:s7.nd.length=s6.nd.length:=by rw[h7.nd]
   have d8:=h8.1.de;have p2:=h2.ad.ps;have p3:=h3.ad.ps;have p5:=h5.ad.ps;have p6:=h6.ad.ps;have p7:=h7.ad.ps;refine Tt.addE i i8 a8 (fun hk=>by omega) (fun hk=>?_) (by have:=h8.2.2.1;simp only[List.length_cons];omega);intro k hk';rcases lω.1 hk' with rfl|hk'
   ·exact(((h4.1.mono h5.ad).mono h6.ad).mono h7.ad).mono g hk
   ·exact h8.2.2.2 k hk' hk
  exact hcall.bnd fun x s5 i5 a5 h5=>one _ _ _ x s5 i5 a5 h5.1
 refine Tt.cnd i (fun hc=>word hc fun s1 i1 a1 hr1 _ _=>yN he hb 11 i i1 a1 hr1) fun hc=>?_
 refine Tt.cnd i (fun hc=>word hc fun s1 i1 a1 hr1 _ _=>yN he hb 12 i i1 a1 hr1) fun hc=>?_
 refine Tt.cnd i (fun hc=>word hc fun s1 i1 a1 hr1 _ _=>Tt.cnd i1 (fun _=>non _ _ _ s1 i1 a1) fun _=>(he.at i1 a1 hr1).bnd fun x s2 i2 a2 h2=>one _ _ _ x s2 i2 a2 h2.1) fun hc=>?_
 refine Tt.cnd i (fun hc=>word hc fun s1 i1 a1 hr1 _ _=>non _ _ _ s1 i1 a1) fun hc=>?_
 refine Tt.cnd i (fun hc=>word hc fun s1 i1 a1 hr1 _ _=>ops _ 2 (by decide) s1 i1 a1 hr1) fun hc=>?_
 refine Tt.cnd i (fun hc=>word hc fun s1 i1 a1 hr1 _ _=>ops _ 3 (by decide) s1 i1 a1 hr1) fun hc=>?_
 refine Tt.cnd i (fun hc=>word hc fun s1 i1 a1 hr1 _ _=>ops _ 1 (by decide) s1 i1 a1 hr1) fun hc=>?_
 refine(Tt.fail i a (by decide)).bnd fun _ s1 i1 a1 h1=>?_
 exact Tt.ret i1 a1 ⟨fun k=>(by rw[h1.2]at k;cases k),fun k=>(by rw[h1.2]at k;cases k)⟩
end
end Go.Ab
end
