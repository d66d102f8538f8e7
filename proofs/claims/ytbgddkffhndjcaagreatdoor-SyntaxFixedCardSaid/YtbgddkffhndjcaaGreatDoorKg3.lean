import Derived.Test.YtbgddkffhndjcaaGreatDoorKg2
import Derived.Test.YtbgddkffhndjcaaGreatDoorOg3
import Derived.Test.YtbgddkffhndjcaaGreatDoorKg1
import Derived.Lib.ParseIntBTie
set_option linter.all false
namespace Go.Ab
open Go
set_option maxRecDepth 100000
set_option synthInstance.maxSize 2000
noncomputable section
section
def aY {α:Type}{c:PS->Bool}{p q:PM α}{s:PS}{r:α×PS}(hc:c s=false)(e:cnd c p q s=some r):q s=some r:=by
 obtain⟨-,e⟩:=aD e;simp_all
def dF {α:Type}{c:PS->Bool}{p q:PM α}{s:PS}{r:α×PS}(hc:c s=true)(e:cnd c p q s=some r):p s=some r:=by
 obtain⟨-,e⟩:=aD e;simp_all
def K5 (t:Tk):Bool:=bc t&&!eB t [101,108,115,101]
def ST (t:Tr):Prop:=∀(q f:Nat) (s u:PS) (v:Int) (R:List Tk) (t1:Tk),Nx s (bQ t.w++t1::R)->K5 t1=true->0<=s.ne->s.ne+hT t<=24->f8 (fu q f 0) (Ek q f) q s=some (v,u)->v=((s.nd.length+t.sz - 1:Nat):Int)/\xF s u (t.fl s.nd.length) (t1::R)
def BT (t:Tr):Prop:=∀(q f:Nat) (s u:PS) (v:Int) (R:List Tk),Nx s (bQ t.w++R)->0<=s.ne->s.ne+hT t<=24->Ek q f s=some (v,u)->v=((s.nd.length+t.sz - 1:Nat):Int)/\xF s u (t.fl s.nd.length) R
variable {x:LN}
def bB {s:PS}{w:LN}{R:List Tk}{b:Bool}(hn:Nx s (kw w::R))(h:eB (kw w) x=b):s.is x=b:=(hn.isA x).trans h
def Fi {s:PS}{w:LN}{R:List Tk}{b:Bool}(hn:Nx s (sy w::R))(h:eB (sy w) x=b):s.is x=b:=(hn.isA x).trans h
def LB {s:PS}{w:LN}{R:List Tk}(hn:Nx s (kw w::R))(h:bc (kw w)=true):eqI (s.peek 0).k 1=false:=by
 rw[(hn.k h).1];rfl
section
variable {ex bl:PM Int} {q:Nat} {s u:PS} {v:Int} {R:List Tk}
def Ĥ (hn:Nx s (kw [108,101,116]::R))(e:f8 ex bl q s=some (v,u)):(pUp.bnd fun _=>pName.bnd fun n=>(gE [58]).bnd fun _=>pKind.bnd fun k=>(kU ex q).bnd fun x=>gL ⟨8,n,⟨k,0,[],[],[]⟩,[x]⟩) s=some (v,u):=by
 exact dF (bB hn (by rfl)) e
def WK (hn:Nx s (kw [99,97,108,108]::R))(e:f8 ex bl q s=some (v,u)):((pD ex q).bnd fun x=>gL ⟨10,[],vz,[x]⟩) s=some (v,u):=by
 exact dF (bB hn (by rfl)) (aY (LB hn (by rfl)) (aY (bB hn (by rfl)) e))
def S_ (hn:Nx s (kw [105,102]::R))(e:f8 ex bl q s=some (v,u)):(pUp.bnd fun _=>pE 11 ex bl) s=some (v,u):=by
 exact dF (bB hn (by rfl)) (aY (bB hn (by rfl)) (aY (LB hn (by rfl)) (aY (bB hn (by rfl)) e)))
def QK (hn:Nx s (kw [119,104,105,108,101]::R))(e:f8 ex bl q s=some (v,u)):(pUp.bnd fun _=>pE 12 ex bl) s=some (v,u):=by
 exact dF (bB hn (by rfl)) (aY (bB hn (by rfl)) (aY (bB hn (by rfl)) (aY (LB hn (by rfl)) (aY (bB hn (by rfl)) e))))
def ya (hn:Nx s (kw [114,101,116,117,114,110]::R))(e:f8 ex bl q s=some (v,u)):(pUp.bnd fun _=>cnd (fun s=>s.is [59]) (gL ⟨13,[],vz,[]⟩) (ex.bnd fun x=>gL ⟨13,[],vz,[x]⟩)) s=some (v,u):=by
 exact dF (bB hn (by rfl)) (aY (bB hn (by rfl)) (aY (bB hn (by rfl)) (aY (bB hn (by rfl)) (aY (LB hn (by rfl)) (aY (bB hn (by rfl)) e)))))
def WM (hn:Nx s (kw [102,97,105,108]::R))(e:f8 ex bl q s=some (v,u)):(pUp.bnd fun _=>gL ⟨14,[],vz,[]⟩) s=some (v,u):=by
 exact dF (bB hn (by rfl)) (aY (bB hn (by rfl)) (aY (bB hn (by rfl)) (aY (bB hn (by rfl)) (aY (bB hn (by rfl)) (aY (LB hn (by rfl)) (aY (bB hn (by rfl)) e))))))
def WL (hn:Nx s (kw [101,109,105,116]::R))(e:f8 ex bl q s=some (v,u)):(pUp.bnd fun _=>(tf ex 2).bnd fun l=>gL ⟨15,[],vz,l⟩) s=some (v,u):=by
 exact dF (bB hn (by rfl)) (aY (bB hn (by rfl)) (aY (bB hn (by rfl)) (aY (bB hn (by rfl)) (aY (bB hn (by rfl)) (aY (bB hn (by rfl)) (aY (LB hn (by rfl)) (aY (bB hn (by rfl)) e)))))))
def Nz (hn:Nx s (kw [114,101,109,105,110,100]::R))(e:f8 ex bl q s=some (v,u)):(pUp.bnd fun _=>(tf ex 3).bnd fun l=>gL ⟨16,[],vz,l⟩) s=some (v,u):=by
 exact dF (bB hn (by rfl)) (aY (bB hn (by rfl)) (aY (bB hn (by rfl)) (aY (bB hn (by rfl)) (aY (bB hn (by rfl)) (aY (bB hn (by rfl)) (aY (bB hn (by rfl)) (aY (LB hn (by rfl)) (aY (bB hn (by rfl)) e))))))))
def Ny (hn:Nx s (kw [99,97,110,99,101,108]::R))(e:f8 ex bl q s=some (v,u)):(pUp.bnd fun _=>(tf ex 1).bnd fun l=>gL ⟨17,[],vz,l⟩) s=some (v,u):=by
 exact dF (bB hn (by rfl)) (aY (bB hn (by rfl)) (aY (bB hn (by rfl)) (aY (bB hn (by rfl)) (aY (bB hn (by rfl)) (aY (bB hn (by rfl)) (aY (bB hn (by rfl)) (aY (bB hn (by rfl)) (aY (LB hn (by rfl)) (aY (bB hn (by rfl)) e)))))))))
def ĥ {nm:LN}(hm:bw nm=true)(hn:Nx s (bD nm::R))(e:f8 ex bl q s=some (v,u)):(pName.bnd fun n=>(kU ex q).bnd fun x=>gL ⟨9,n,vz,[x]⟩) s=some (v,u):=by
 rw[(jT hm).2]at hn;exact dF (by rw[(hn.k (jJ hm)).1];rfl) (aY ((hn.isA _).trans (ma hm _)) e)
end
def CQ {q f n:Nat}{s u:PS}{v:Int}{R:List Tk}{op:Int}(ks:List Tr)(hl:ks.length=n)(hk:Kd ks)(hn:Nx s (kw x::(bQ (bp (wL ks))++sy [59]::R)))(h0:0<=s.ne)(h24:s.ne<24)(hh:∀k∈ks,s.ne+1+hT k<=24)(e:(pUp.bnd fun _=>(tf (fu q f 0) n).bnd fun l=>gL ⟨op,[],vz,l⟩) s=some (v,u)):
  v=((s.nd.length+eR ks:Nat):Int)/\xF s u (iW ks s.nd.length++[⟨op,[],vz,eJ s.nd.length ks⟩]) R:=by
 subst hl;obtain⟨_,s1,e1,e⟩:=aa e;obtain⟨hn1,hm1⟩:=kx hn e1;have i1:=hm1.ne;obtain⟨l,s2,e2,e⟩:=aa e;obtain⟨rfl,hf⟩:=E_ ks hk hn1 (by omega) (by omega) (fun k hk=>by have:=hh k hk;omega) e2;obtain⟨rfl,hf2⟩:=oS hf.nx e;have i2:=hf.ne;have i3:=hf2.ne;refine⟨by rw[hf.nd,lα,iX,hm1.nd],hf2.nx,by omega,?_,?_⟩
 ·rw[hf2.nd,hf.nd,hm1.nd,lε]
 ·rw[hf2.tt,hf.tt,hm1.tt]
def Cz {t:Tr}(hw:Wf t)(ho:mw t.op=true):∃t0 r,bQ t.w=t0::r/\K5 t0=true/\eB t0 [125]=false:=by
 cases t with
 |n op nm v ks=>
  simp only[Wf]at hw;simp only[Tr.op]at ho;simp only[Tr.w];unfold mw at ho;simp only[lγ,cn,lδ]at ho;have e:op=8\/op=9\/op=10\/op=11\/op=12\/op=13\/op=14\/op=15\/op=16\/op=17:=by omega
  rcases e with rfl|rfl|rfl|rfl|rfl|rfl|rfl|rfl|rfl|rfl
  ·exact⟨bD [108,101,116],_,rfl,by kernel_rfl,by kernel_rfl⟩
  ·have h1:=(cv9 hw.2.1).1;refine⟨na nm,_,by show bD nm::_=_;rw[(jT h1).2],?_,ma h1 _⟩
   unfold K5;rw[jJ h1,ma h1];rfl
  ·have hko:(Nat.beq (ks.map Tr.op).length 1&&(ks.map Tr.op).all pN)=true:=hw.1;rw[lγ,lζ]at hko;obtain⟨k,rfl⟩:=ĵ (lη hko.1);have h7:pN k.op=true:=lσ.1 hko.2 _ (by simp);cases k with
   |n op' nm' v' ks'=>
    have h7':op'=7:=by
     unfold pN at h7;rwa [bO,lδ]at h7
    subst h7';exact⟨bD [99,97,108,108],_,rfl,by kernel_rfl,by kernel_rfl⟩
  ·exact⟨bD [105,102],_,rfl,by kernel_rfl,by kernel_rfl⟩
  ·exact⟨bD [119,104,105,108,101],_,rfl,by kernel_rfl,by kernel_rfl⟩
  ·exact⟨bD [114,101,116,117,114,110],_,rfl,by kernel_rfl,by kernel_rfl⟩
  ·exact⟨bD [102,97,105,108],_,rfl,by kernel_rfl,by kernel_rfl⟩
  ·exact⟨bD [101,109,105,116],_,rfl,by kernel_rfl,by kernel_rfl⟩
  ·exact⟨bD [114,101,109,105,110,100],_,rfl,by kernel_rfl,by kernel_rfl⟩
  ·exact⟨bD [99,97,110,99,101,108],_,rfl,by kernel_rfl,by kernel_rfl⟩
def El {st:PM Int}(ks:List Tr)(hw:∀k∈ks,Wf k/\mw k.op=true)(b:Nat)(ne:Int)(nd0:List No)(tt:Int)(hb:nd0.length=b)(R:List Tk)
  (hS:∀k∈ks,∀(s u:PS) (v:Int) (t1:Tk) (R':List Tk),s.ne=ne->Nx s (bQ k.w++t1::R')->K5 t1=true->st s=some (v,u)->v=((s.nd.length+k.sz - 1:Nat):Int)/\xF s u (k.fl s.nd.length) (t1::R')):
  ∀(n q i:Nat) (s u:PS) (l':LI),i+n=ks.length->s.ne=ne->s.tt=tt->s.nd=nd0++iW (ks.take i) b->Nx s (bQ (aF (wL (ks.drop i)))++sy [125]::R)->lK st q (eJ b (ks.take i)) s=some (l',u)->l'=eJ b ks/\u.ne=ne/\u.tt=tt/\u.nd=nd0++iW ks b/\Nx u (sy [125]::R)
 |n,0,i,s,u,l',hi,h1,h2,h3,hn,e=>by cases e
 |0,q+1,i,s,u,l',hi,h1,h2,h3,hn,e=>by
  have ht:ks.take i=ks:=mβ (by omega);rw[List.drop_of_length_le (by omega)]at hn;replace hn:Nx s (sy [125]::R):=hn;unfold lK at e;rcases bT e with⟨-,e⟩|⟨k,-⟩;case inr=>rw[hn.ok]at k;cases k
  obtain⟨rfl,rfl⟩:=au (dF (Fi hn (by kernel_rfl)) e);rw[ht]at h3 ⊢
  exact⟨rfl,h1,h2,h3,hn⟩
 |n+1,q+1,i,s,u,l',hi,h1,h2,h3,hn,e=>by
  have hi':i<ks.length:=by omega
  obtain⟨k1,k2⟩:=hw _ (lπ hi');obtain⟨t0,r0,f1,f2,f3⟩:=Cz k1 k2;have hd:aF (wL (ks.drop i))=ks[i].w++aF (wL (ks.drop (i+1))):=by rw[lι hi'];rfl
  rw[hd,bd,lε]at hn;have tokn:∃t1 R',K5 t1=true/\bQ (aF (wL (ks.drop (i+1))))++sy [125]::R=t1::R':=by
   rcases lυ (i+1) ks.length with h|h
   ·obtain⟨a1,a2⟩:=hw _ (lπ h);obtain⟨t0,r0,f1,f2,f3⟩:=Cz a1 a2;rw[lι h];refine⟨t0,(r0++bQ (aF (wL (ks.drop (i+1+1)))))++sy [125]::R,f2,?_⟩;show bQ (ks[i+1].w++aF (wL (ks.drop (i+1+1))))++_=_;rw[bd,f1];rfl
   ·rw[List.drop_of_length_le h];exact⟨sy [125],_,by kernel_rfl,rfl⟩
  obtain⟨t1,R',ht,htok⟩:=tokn;rw[htok]at hn;unfold lK at e;rcases bT e with⟨-,e⟩|⟨k,-⟩;case inr=>rw[hn.ok]at k;cases k
  have hc:s.is [125]=false:=by
   have hn':=hn;rw[f1]at hn';rw[Nx.isA hn'];exact f3
  replace e:=aY (c:=fun s=>s.is [125]) hc e;obtain⟨l1,s1,e1,e⟩:=aa e;obtain⟨x,e1x,-,rfl⟩:=cf e1;obtain⟨rfl,hf⟩:=hS _ (lπ hi') s s1 x t1 R' h1 hn ht e1x;have hwl:s.nd.length=b+eR (ks.take i):=by rw[h3,lα,iX,hb]
  have g1:eJ b (ks.take i)++[((s.nd.length+ks[i].sz - 1:Nat):Int)]=eJ b (ks.take (i+1)):=by rw[iz ks i hi',vm,hwl]
  rw[g1]at e;have g5:=hf.nx;rw[<-htok]at g5;refine El ks hw b ne nd0 tt hb R hS n q (i+1) s1 u l' (by omega) (hf.ne.trans h1) (hf.tt.trans h2) ?_ g5 e;rw[hf.nd,iz ks i hi',uz,hwl,h3,lε]
def En {lim:PM Unit}{st:PM Int}{q:Nat}{s u:PS}{v:Int}{ks:List Tr}(hw:∀k∈ks,Wf k/\mw k.op=true){R:List Tk}
  (hS:∀k∈ks,∀(z u:PS) (v:Int) (t1:Tk) (R':List Tk),z.ne=s.ne+1->Nx z (bQ k.w++t1::R')->K5 t1=true->st z=some (v,u)->v=((z.nd.length+k.sz - 1:Nat):Int)/\xF z u (k.fl z.nd.length) (t1::R'))
  (hn:Nx s (bQ (Tr.n 18 [] vz ks).w++R)) (h0:0<=s.ne) (h24:s.ne<24) (e:gD lim st q s=some (v,u)):
  ∃s3 s4,v=((s.nd.length+eR ks:Nat):Int)/\Nx s3 (sy [125]::R)/\s3.ne=s.ne+1/\s3.nd=s.nd++(Tr.n 18 [] vz ks).fl s.nd.length/\s3.tt=s.tt/\lim s3=some ((),s4)/\(s4=s3->xF s u ((Tr.n 18 [] vz ks).fl s.nd.length) R):=by
 have hwd:bQ (Tr.n 18 [] vz ks).w++R=sy [123]::(bQ (aF (wL ks))++sy [125]::R):=by
  show bQ ([[123]]++(aF (wL ks)++[[125]]))++R=_;rw[bd,bd,<-C0 (o:=[123]) (by simp),<-C0 (o:=[125]) (by simp),lε,lε];rfl
 rw[hwd]at hn;unfold gD at e;obtain⟨_,s1,e1,e⟩:=aa e;obtain⟨hn1,hm1⟩:=oT hn (by kernel_rfl) h0 h24 e1;have i1:=hm1.ne;obtain⟨l,s2,e2,e⟩:=aa e;obtain⟨rfl,g2,g3,g4,g5⟩:=El ks hw s.nd.length (s.ne+1) s.nd s.tt rfl R hS ks.length q 0 s1 s2 l (by omega) hm1.ne hm1.tt (by rw[hm1.nd];simp only[List.take_zero,iW,lν]) hn1 (by simpa only[List.take_zero,eJ]using e2);rcases bT e with⟨-,e⟩|⟨k,-⟩;case inr=>rw[g5.ok]at k;cases k
 obtain⟨x,s3,e3,e⟩:=aa e;obtain⟨rfl,hf3⟩:=gu g5 e3;obtain⟨_,s4,e4,e⟩:=aa e;obtain⟨_,s5,e5,e⟩:=aa e;obtain⟨rfl,rfl⟩:=au e;have i3:=hf3.ne;have hnd:s3.nd=s.nd++(Tr.n 18 [] vz ks).fl s.nd.length:=by
  rw[hf3.nd,g4];simp only[Tr.fl,lε]
 refine⟨s3,s4,by rw[g4,lα,iX],hf3.nx,by omega,hnd,hf3.tt.trans g3,e4,fun h=>?_⟩
 subst h;obtain⟨hn6,hm6⟩:=mb hf3.nx (by kernel_rfl) (by omega) (by omega) e5;exact⟨hn6,by have:=hm6.ne;omega,hm6.nd.trans hnd,by rw[hm6.tt,hf3.tt,g3]⟩
end
def ad2 {ks:List Tr}(h:(ks.map Tr.op).isEmpty=true):ks=[]:=by
 simp_all
def mG {ks:List Tr}{p:Int->Bool}(h:(ks.map Tr.op).all p=true):∀k∈ks,p k.op=true:=by simp_all
def afv {op:Int}{ks:List Tr}(ho:op=15)(h:fC op (ks.map Tr.op)=true):ks.length=2/\∀k∈ks,bo k.op=true:=by
 subst ho;replace h:(Nat.beq (ks.map Tr.op).length 2&&(ks.map Tr.op).all bo)=true:=h;simp_all
def afw {op:Int}{ks:List Tr}(ho:op=16)(h:fC op (ks.map Tr.op)=true):ks.length=3/\∀k∈ks,bo k.op=true:=by
 subst ho;replace h:(Nat.beq (ks.map Tr.op).length 3&&(ks.map Tr.op).all bo)=true:=h;simp_all
def afu {op:Int}{ks:List Tr}(ho:op=17)(h:fC op (ks.map Tr.op)=true):ks.length=1/\∀k∈ks,bo k.op=true:=by
 subst ho;replace h:(Nat.beq (ks.map Tr.op).length 1&&(ks.map Tr.op).all bo)=true:=h;simp_all
def B_ {t:Tr}(h:lb t.op=true):t.op=18:=by unfold lb at h;rwa [bO,lδ]at h
def hL0 {op:Int}{t:Tr}{r:List Tr}(j:Nat):hT t+fiH op j<=hL op j (t::r):=by simp only[hL];omega
def aef {q:Nat}{s u:PS}{v:Int}{R:List Tk}{op:Int}{x:LN}(hn:Nx s (kw x::sy [59]::R))(e:(pUp.bnd fun _=>gL ⟨op,[],vz,[]⟩) s=some (v,u)):v=(s.nd.length:Int)/\xF s u [⟨op,[],vz,[]⟩] R:=by
 obtain⟨_,s1,e1,e⟩:=aa e;obtain⟨hn1,hm1⟩:=kx hn e1;obtain⟨rfl,hf⟩:=oS hn1 e;exact⟨by rw[hm1.nd],hf.nx,by have:=hf.ne;have:=hm1.ne;omega,by rw[hf.nd,hm1.nd],hf.tt.trans hm1.tt⟩
variable {q:Nat}
def KH {f:Nat}{s u:PS}{v:Int}{op:Int}{c b:Tr}{r:List Tr}{R:List Tk}{t1:Tk}(ho:op=11/\r.length<=1\/op=12/\r=[])(hc:Wf c/\iD eV c/\bo c.op=true)(hb:BT b)(hr:∀x∈r,BT x)(hn:Nx s (sy [40]::(bQ c.w++sy [41]::(bQ b.w++(bQ (rS (wL r))++t1::R)))))(he:K5 t1=true)(h0:0<=s.ne)(hh:s.ne+hL op 0 (c::b::r)<=24)(e:pE op (fu q f 0) (Ek q f) s=some (v,u)):
  v=((s.nd.length+eR (c::b::r):Nat):Int)/\xF s u (iW (c::b::r) s.nd.length++[⟨op,[],vz,eJ s.nd.length (c::b::r)⟩]) (t1::R):=by
 have hf0:fiH op 0=1:=by rcases ho with⟨rfl,-⟩|⟨rfl,-⟩<;>rfl
 have hhc:=hL0 (op:=op) (t:=c) (r:=b::r) 0;have hhb:=Sw (op:=op) (c::b::r) 0 b (by simp);unfold pE at e;obtain⟨_,s1,e1,e⟩:=aa e;obtain⟨hn1,hm1⟩:=oT hn (by kernel_rfl) h0 (by omega) e1;have i1:=hm1.ne;obtain⟨x,s2,e2,e⟩:=aa e;obtain⟨rfl,hf2⟩:=wF hc.1 hc.2.1 hc.2.2 q f 0 s1 s2 x _ _ (by omega) hn1 (by kernel_rfl) (by kernel_rfl) (by omega) (by omega) e2;have i2:=hf2.ne;obtain⟨_,s3,e3,e⟩:=aa e;obtain⟨hn3,hm3⟩:=mb hf2.nx (by kernel_rfl) (by omega) (by omega) e3;have i3:=hm3.ne;obtain⟨y,s4,e4,e⟩:=aa e;obtain⟨rfl,hf4⟩:=hb q f s3 s4 y _ hn3 (by omega) (by omega) e4;have i4:=hf4.ne;have j3:s3.nd=s.nd++c.fl s.nd.length:=by rw[hm3.nd,hf2.nd,hm1.nd]
 have l3:s3.nd.length=s.nd.length+c.sz:=by rw[j3,lα,gB]
 have j4:s4.nd=s.nd++c.fl s.nd.length++b.fl (s.nd.length+c.sz):=by rw[hf4.nd,l3,j3]
 have l4:s4.nd.length=s.nd.length+c.sz+b.sz:=by rw[j4,lα,lα,gB,gB]
 have t4:s4.tt=s.tt:=by rw[hf4.tt,hm3.tt,hf2.tt,hm1.tt]
 have l1:s1.nd.length=s.nd.length:=by rw[hm1.nd]
 rw[l1,l3]at e;have two:r=[]->eb ⟨op,[],vz,[((s.nd.length+c.sz - 1:Nat):Int),((s.nd.length+c.sz+b.sz - 1:Nat):Int)]⟩ s4=some (v,u)->v=((s.nd.length+eR (c::b::r):Nat):Int)/\xF s u (iW (c::b::r) s.nd.length++[⟨op,[],vz,eJ s.nd.length (c::b::r)⟩]) (t1::R):=fun hr e=>by
  subst hr;obtain⟨rfl,hf⟩:=gu (R:=t1::R) hf4.nx e;have i5:=hf.ne;refine⟨by rw[l4];simp only[eR,Nat.add_zero,Nat.add_assoc],hf.nx,by omega,?_,hf.tt.trans t4⟩
  rw[hf.nd,j4];simp only[iW,eJ,lν,lε]
 rcases ho with⟨rfl,ho⟩|⟨rfl,rfl⟩
 ·replace e:cnd (fun s=>s.is [101,108,115,101]) (pUp.bnd fun _=>(Ek q f).bnd fun e=>eb ⟨11,[],vz,[((s.nd.length+c.sz - 1:Nat):Int),((s.nd.length+c.sz+b.sz - 1:Nat):Int),e]⟩) (eb ⟨11,[],vz,[((s.nd.length+c.sz - 1:Nat):Int),((s.nd.length+c.sz+b.sz - 1:Nat):Int)]⟩) s4=some (v,u):=e;match r,ho,hr,hh,hf4,two,hhc,hhb with
  |[],_,_,_,hf4,two,_,_=>
   refine two rfl (aY (c:=fun s=>s.is [101,108,115,101]) ?_ e);have hn4:Nx s4 (t1::R):=hf4.nx;rw[hn4.isA];unfold K5 at he;rw[lγ,Bool.not_eq_true']at he;exact he.2
  |[d],_,hr,hh,hf4,_,_,_=>
   have hhd:=Sw (op:=11) (c::b::[d]) 0 d (by simp);have hn4:Nx s4 (kw [101,108,115,101]::(bQ d.w++t1::R)):=by
    rw[<-NR (o:=[101,108,115,101]) (by simp)];exact hf4.nx
   replace e:=dF (bB hn4 (by kernel_rfl)) e;obtain⟨_,s5,e5,e⟩:=aa e;obtain⟨hn5,hm5⟩:=kx hn4 e5;have i5:=hm5.ne;obtain⟨z,s6,e6,e⟩:=aa e;obtain⟨rfl,hf6⟩:=hr d (by simp) q f s5 s6 z _ hn5 (by omega) (by omega) e6;have i6:=hf6.ne;obtain⟨rfl,hf⟩:=gu hf6.nx e;have i7:=hf.ne;have l5:s5.nd.length=s.nd.length+c.sz+b.sz:=by rw[hm5.nd,l4]
   refine⟨by rw[hf6.nd,lα,gB,l5];simp only[eR,Nat.add_zero,Nat.add_assoc],hf.nx,by omega,?_,?_⟩
   ·rw[hf.nd,hf6.nd,l5,hm5.nd,j4];simp only[iW,eJ,lν,lε]
   ·rw[hf.tt,hf6.tt,hm5.tt,t4]
 ·exact two rfl e
def ģ:∀(n:Nat) (t:Tr),t.sz<=n->Wf t->iD eV t->(mw t.op=true->ST t)/\(t.op=18->BT t)
 |0,t,h,_,_=>by have:=xl t;omega
 |n+1,.n op nm v ks,hsz,hw,hv=>by
  have hwf:=hw;simp only[Wf]at hw;simp only[iD]at hv;simp only[Tr.sz]at hsz;have kd:∀k∈ks,Wf k/\iD eV k/\(mw k.op=true->ST k)/\(k.op=18->BT k):=fun k hk=>by
   have h1:=vV hw.2.2 hk;have h2:=qo hv.2 hk;exact⟨h1,h2,ģ n k (by have:=Is hk;omega) h1 h2⟩
  have kex:(∀k∈ks,bo k.op=true)->Kd ks:=Kd.of hw.2.2 hv.2;have hk24:∀k∈ks,Dz op+hT k<=hT (.n op nm v ks):=fun k hk=>GV hk
  refine⟨fun ho=>?_,fun ho=>?_⟩
  ·intro q f s u w R t1 hn he h0 h24 e;have hsz1:s.nd.length+(Tr.n op nm v ks).sz - 1=s.nd.length+eR ks:=by simp only[Tr.sz];omega
   rw[hsz1];have ho':op=8\/op=9\/op=10\/op=11\/op=12\/op=13\/op=14\/op=15\/op=16\/op=17:=by
    simp only[Tr.op,mw,lγ,cn,lδ]at ho;omega
   clear ho;simp only[Tr.w,Tr.fl]at hn ⊢
   rcases ho' with rfl|rfl|rfl|rfl|rfl|rfl|rfl|rfl|rfl|rfl
   ·obtain⟨g1,g2,g3⟩:=cv8 hw.2.1;have hko:(Nat.beq (ks.map Tr.op).length 1&&(ks.map Tr.op).all m8)=true:=hw.1;rw[lγ,lζ]at hko;obtain⟨k,rfl⟩:=ĵ (lη hko.1);obtain⟨k1,k2,-⟩:=kd k (by simp);have hh:=hk24 k (by simp);have hop:Dz 8=0:=rfl;have hwd:bQ (bW 8 nm v (wL [k]))++t1::R=kw [108,101,116]::bD nm::sy [58]::bD (ct v.k)::sy [61]::(bQ k.w++sy [59]::(t1::R)):=by
     show bQ ([[108,101,116],nm,[58],ct v.k,[61]]++(k.w++[[59]]))++t1::R=_;rw[bd,bd,<-NR (o:=[108,101,116]) (by simp),<-C0 (o:=[58]) (by simp),<-C0 (o:=[61]) (by simp),<-C0 (o:=[59]) (by simp),lε,lε];rfl
    rw[hwd]at hn;replace e:=Ĥ hn e;obtain⟨_,s1,e1,e⟩:=aa e;obtain⟨hn1,hm1⟩:=kx hn e1;obtain⟨n',s2,e2,e⟩:=aa e;obtain⟨rfl,hn2,hm2⟩:=mP g1 hn1 e2;obtain⟨_,s3,e3,e⟩:=aa e;obtain⟨hn3,hm3⟩:=ez hn2 (by kernel_rfl) e3;obtain⟨k',s4,e4,e⟩:=aa e;obtain⟨rfl,hn4,hm4⟩:=zB g2 hn3 e4;obtain⟨x,s5,e5,e⟩:=aa e;have i1:=hm1.ne;have i2:=hm2.ne;have i3:=hm3.ne;have i4:=hm4.ne;obtain⟨rfl,hf5⟩:=TN k1 k2 (mG hko.2 k (by simp)) hn4 (by omega) (by omega) e5;obtain⟨rfl,hf6⟩:=oS hf5.nx e;have i5:=hf5.ne;have i6:=hf6.ne;have j4:s4.nd=s.nd:=by rw[hm4.nd,hm3.nd,hm2.nd,hm1.nd]
    refine⟨by rw[hf5.nd,lα,gB,j4];simp only[eR,Nat.add_zero],hf6.nx,by omega,?_,?_⟩
    ·rw[hf6.nd,hf5.nd,j4,<-g3];simp only[iW,eJ,lν,lε]
    ·rw[hf6.tt,hf5.tt,hm4.tt,hm3.tt,hm2.tt,hm1.tt]
   ·obtain⟨g1,rfl⟩:=cv9 hw.2.1;have hko:(Nat.beq (ks.map Tr.op).length 1&&(ks.map Tr.op).all m8)=true:=hw.1;rw[lγ,lζ]at hko;obtain⟨k,rfl⟩:=ĵ (lη hko.1);obtain⟨k1,k2,-⟩:=kd k (by simp);have hh:=hk24 k (by simp);have hop:Dz 9=0:=rfl;have hwd:bQ (bW 9 nm vz (wL [k]))++t1::R=bD nm::sy [61]::(bQ k.w++sy [59]::(t1::R)):=by
     show bQ ([nm,[61]]++(k.w++[[59]]))++t1::R=_;rw[bd,bd,<-C0 (o:=[61]) (by simp),<-C0 (o:=[59]) (by simp),lε,lε];rfl
    rw[hwd]at hn;replace e:=ĥ g1 hn e;obtain⟨n',s2,e2,e⟩:=aa e;obtain⟨rfl,hn2,hm2⟩:=mP g1 hn e2;obtain⟨x,s5,e5,e⟩:=aa e;have i2:=hm2.ne;obtain⟨rfl,hf5⟩:=TN k1 k2 (mG hko.2 k (by simp)) hn2 (by omega) (by omega) e5;obtain⟨rfl,hf6⟩:=oS hf5.nx e;have i5:=hf5.ne;have i6:=hf6.ne;refine⟨by rw[hf5.nd,lα,gB,hm2.nd];simp only[eR,Nat.add_zero],hf6.nx,by omega,?_,?_⟩
    ·rw[hf6.nd,hf5.nd,hm2.nd];simp only[iW,eJ,lν,lε]
    ·rw[hf6.tt,hf5.tt,hm2.tt]
   ·obtain⟨rfl,rfl⟩:=Zu (by simp) hw.2.1;have hko:(Nat.beq (ks.map Tr.op).length 1&&(ks.map Tr.op).all pN)=true:=hw.1;rw[lγ,lζ]at hko;obtain⟨k,rfl⟩:=ĵ (lη hko.1);obtain⟨k1,k2,-⟩:=kd k (by simp);have hh:=hk24 k (by simp);have hop:Dz 10=0:=rfl;have h7:=mG hko.2 k (by simp);cases k with
    |n op' nm' v' ks'=>
     have h7':op'=7:=by
      simp only[Tr.op,pN,bO,lδ]at h7;exact h7
     subst h7';simp only[Wf]at k1;simp only[iD]at k2;obtain⟨g1,g2,g3⟩:=cv7 k1.2.1;rw[g3]at hn hh h24 ⊢
     have hko2:((Nat.ble 1 (ks'.map Tr.op).length&&Nat.ble (ks'.map Tr.op).length 17)&&(ks'.map Tr.op).all bo)=true:=k1.1;simp only[lγ,lζ,Nat.ble_eq]at hko2;have hkd:=Kd.of k1.2.2 k2.2 (mG hko2.2);match ks',hko2,hkd,hn,hh,h24 with
     |[],hko2,_,_,_,_=>simp at hko2
     |k::ks',hko2,hkd,hn,hh,h24=>
      have hwd:bQ (bW 10 [] vz (wL [Tr.n 7 nm' ⟨0,0,v'.s,[],[]⟩ (k::ks')]))++t1::R=bQ (bW 7 nm' ⟨0,0,v'.s,[],[]⟩ (wL (k::ks')))++sy [59]::(t1::R):=by
       show bQ (bW 7 nm' ⟨0,0,v'.s,[],[]⟩ (wL (k::ks'))++[[59]])++t1::R=_;rw[bd,<-C0 (o:=[59]) (by simp),lε];rfl
      rw[hwd]at hn;have hn':Nx s (kw [99,97,108,108]::(bQ (bW 7 nm' ⟨0,0,v'.s,[],[]⟩ (wL (k::ks')))).tail++sy [59]::(t1::R)):=by
       rw[<-NR (o:=[99,97,108,108]) (by simp)];exact hn
      replace e:=WK hn' e;obtain⟨x,s1,e1,e⟩:=aa e;obtain⟨rfl,hf1⟩:=Kz g1 g2 hkd (by have:=hko2.1.2;simp at this;omega) hn h0 (by omega) e1;obtain⟨rfl,hf2⟩:=oS hf1.nx e;have i1:=hf1.ne;have i2:=hf2.ne;refine⟨?_,hf2.nx,by omega,?_,?_⟩
      ·rw[hf1.nd,lα,gB];simp only[eR,Nat.add_zero]
      ·rw[hf2.nd,hf1.nd];simp only[iW,eJ,lν,lε];rfl
      ·rw[hf2.tt,hf1.tt]
   ·obtain⟨rfl,rfl⟩:=Zu (by simp) hw.2.1;have hko:((Nat.ble 2 (ks.map Tr.op).length&&Nat.ble (ks.map Tr.op).length 3)&&(bo ((ks.map Tr.op).headD 0)&&((ks.map Tr.op).drop 1).all lb))=true:=hw.1;match ks,hko,kd,hn,h24,e with
    |[],hko,_,_,_,_=>cases hko
    |[a],hko,_,_,_,_=>cases hko
    |c::b::r,hko,kd,hn,h24,e=>
     simp only[lγ,lζ,Nat.ble_eq,List.length_cons,List.map_cons,List.headD_cons,List.drop_succ_cons,List.drop_zero,List.all_cons]at hko;obtain⟨⟨-,hl⟩,hce,hbe,hre⟩:=hko;obtain⟨c1,c2,-⟩:=kd c (by simp);obtain⟨b1,b2,-,b3⟩:=kd b (by simp);have hwd:bQ (bW 11 [] vz (wL (c::b::r)))++t1::R=kw [105,102]::sy [40]::(bQ c.w++sy [41]::(bQ b.w++(bQ (rS (wL r))++t1::R))):=by
      show bQ ([[105,102]]++(bp [c.w]++(b.w++rS (wL r))))++t1::R=_;rw[bd,bd,bd,lε,lε,oQ,wz,show bU 1 []=[]from rfl,lν,lε,<-NR (o:=[105,102]) (by simp)];rfl
     rw[hwd]at hn;replace e:=S_ hn e;obtain⟨_,s1,e1,e⟩:=aa e;obtain⟨hn1,hm1⟩:=kx hn e1;have i1:=hm1.ne;have hh:hT (.n 11 [] vz (c::b::r))=0+hL 11 0 (c::b::r):=by simp only[hT];rfl
     obtain⟨rfl,hf⟩:=KH (.inl ⟨rfl,by omega⟩) ⟨c1,c2,hce⟩ (b3 (B_ hbe)) (fun x hx=>(kd x (by simp[hx])).2.2.2 (B_ (mG hre x hx))) hn1 he (by omega) (by omega) e;refine⟨by rw[hm1.nd],hf.nx,by have:=hf.ne;omega,by rw[hf.nd,hm1.nd],hf.tt.trans hm1.tt⟩
   ·obtain⟨rfl,rfl⟩:=Zu (by simp) hw.2.1;have hko:(Nat.beq (ks.map Tr.op).length 2&&(bo ((ks.map Tr.op).headD 0)&&((ks.map Tr.op).drop 1).all lb))=true:=hw.1;rw[lγ,lζ]at hko;obtain⟨c,b,rfl⟩:=aeL (lη hko.1);have hko2:=hko.2;simp only[lγ,List.map_cons,List.map_nil,List.headD_cons,List.drop_succ_cons,List.drop_zero,List.all_cons,List.all_nil,Bool.and_true]at hko2;obtain⟨hce,hbe⟩:=hko2;obtain⟨c1,c2,-⟩:=kd c (by simp);obtain⟨b1,b2,-,b3⟩:=kd b (by simp);have hwd:bQ (bW 12 [] vz (wL [c,b]))++t1::R=kw [119,104,105,108,101]::sy [40]::(bQ c.w++sy [41]::(bQ b.w++(bQ (rS (wL []))++t1::R))):=by
     show bQ ([[119,104,105,108,101]]++(bp [c.w]++b.w))++t1::R=_;rw[bd,bd,lε,lε,oQ,wz,show bU 1 []=[]from rfl,lν,<-NR (o:=[119,104,105,108,101]) (by simp)];rfl
    rw[hwd]at hn;replace e:=QK hn e;obtain⟨_,s1,e1,e⟩:=aa e;obtain⟨hn1,hm1⟩:=kx hn e1;have i1:=hm1.ne;have hh:hT (.n 12 [] vz [c,b])=0+hL 12 0 [c,b]:=by simp only[hT];rfl
    obtain⟨rfl,hf⟩:=KH (.inr ⟨rfl,rfl⟩) ⟨c1,c2,hce⟩ (b3 (B_ hbe)) (fun x hx=>by cases hx) hn1 he (by omega) (by omega) e;refine⟨by rw[hm1.nd],hf.nx,by have:=hf.ne;omega,by rw[hf.nd,hm1.nd],hf.tt.trans hm1.tt⟩
   ·obtain⟨rfl,rfl⟩:=Zu (by simp) hw.2.1;have hko:(Nat.ble (ks.map Tr.op).length 1&&(ks.map Tr.op).all bo)=true:=hw.1;rw[lγ,lζ,Nat.ble_eq]at hko;have hop:Dz 13=0:=rfl;match ks,hko,kex,hk24,hn,h24 with
    |[],_,_,_,hn,h24=>
     have hwd:bQ (bW 13 [] vz (wL []))++t1::R=kw [114,101,116,117,114,110]::sy [59]::t1::R:=by
      rw[<-NR (o:=[114,101,116,117,114,110]) (by simp),<-C0 (o:=[59]) (by simp)];rfl
     rw[hwd]at hn;replace e:=ya hn e;obtain⟨_,s1,e1,e⟩:=aa e;obtain⟨hn1,hm1⟩:=kx hn e1;replace e:=dF (c:=fun s=>s.is [59]) (Fi hn1 (by kernel_rfl)) e;obtain⟨rfl,hf⟩:=oS hn1 e;exact⟨by rw[hm1.nd];rfl,hf.nx,by have:=hf.ne;have:=hm1.ne;omega,by rw[hf.nd,hm1.nd];rfl,hf.tt.trans hm1.tt⟩
    |[k],hko,kex,hk24,hn,h24=>
     obtain⟨k1,k2,k3⟩:=kex (mG hko.2) k (by simp);have hh:=hk24 k (by simp);have hwd:bQ (bW 13 [] vz (wL [k]))++t1::R=kw [114,101,116,117,114,110]::(bQ k.w++sy [59]::(t1::R)):=by
      show bQ ([[114,101,116,117,114,110]]++((k.w++[])++[[59]]))++t1::R=_;rw[lν,bd,bd,<-NR (o:=[114,101,116,117,114,110]) (by simp),<-C0 (o:=[59]) (by simp),lε,lε];rfl
     rw[hwd]at hn;replace e:=ya hn e;obtain⟨_,s1,e1,e⟩:=aa e;obtain⟨hn1,hm1⟩:=kx hn e1;replace e:=aY (c:=fun s=>s.is [59]) (YY k1 k2 k3 hn1 (by kernel_rfl)) e;have i1:=hm1.ne;obtain⟨x,s2,e2,e⟩:=aa e;obtain⟨rfl,hf2⟩:=wF k1 k2 k3 q f 0 s1 s2 x _ _ (by omega) hn1 (by kernel_rfl) (by kernel_rfl) (by omega) (by omega) e2;obtain⟨rfl,hf⟩:=oS hf2.nx e;have i2:=hf2.ne;refine⟨?_,hf.nx,by have:=hf.ne;omega,?_,?_⟩
     ·rw[hf2.nd,lα,gB,hm1.nd];simp only[eR,Nat.add_zero]
     ·rw[hf.nd,hf2.nd,hm1.nd];simp only[iW,eJ,lν,lε]
     ·rw[hf.tt,hf2.tt,hm1.tt]
    |a::b::r,hko,_,_,_,_=>simp at hko
   ·obtain⟨rfl,rfl⟩:=Zu (by simp) hw.2.1;obtain rfl:=ad2 hw.1;have hwd:bQ (bW 14 [] vz (wL []))++t1::R=kw [102,97,105,108]::sy [59]::t1::R:=by
     rw[<-NR (o:=[102,97,105,108]) (by simp),<-C0 (o:=[59]) (by simp)];rfl
    rw[hwd]at hn;exact aef (q:=q) hn (WM hn e)
   ·obtain⟨rfl,rfl⟩:=Zu (by simp) hw.2.1;obtain⟨hl,hke⟩:=afv rfl hw.1;have hop:Dz 15=1:=rfl;have hwd:bQ (bW 15 [] vz (wL ks))++t1::R=kw [101,109,105,116]::(bQ (bp (wL ks))++sy [59]::(t1::R)):=by
     show bQ ([[101,109,105,116]]++(bp (wL ks)++[[59]]))++t1::R=_;rw[bd,bd,<-NR (o:=[101,109,105,116]) (by simp),<-C0 (o:=[59]) (by simp),lε,lε];rfl
    rw[hwd]at hn;have hT1:1<=hT (.n 15 [] vz ks):=by simp only[hT,hop];omega
    exact CQ ks hl (kex hke) hn h0 (by omega) (fun k hk=>by have:=hk24 k hk;omega) (WL hn e)
   ·obtain⟨rfl,rfl⟩:=Zu (by simp) hw.2.1;obtain⟨hl,hke⟩:=afw rfl hw.1;have hop:Dz 16=1:=rfl;have hwd:bQ (bW 16 [] vz (wL ks))++t1::R=kw [114,101,109,105,110,100]::(bQ (bp (wL ks))++sy [59]::(t1::R)):=by
     show bQ ([[114,101,109,105,110,100]]++(bp (wL ks)++[[59]]))++t1::R=_;rw[bd,bd,<-NR (o:=[114,101,109,105,110,100]) (by simp),<-C0 (o:=[59]) (by simp),lε,lε];rfl
    rw[hwd]at hn;have hT1:1<=hT (.n 16 [] vz ks):=by simp only[hT,hop];omega
    exact CQ ks hl (kex hke) hn h0 (by omega) (fun k hk=>by have:=hk24 k hk;omega) (Nz hn e)
   ·obtain⟨rfl,rfl⟩:=Zu (by simp) hw.2.1;obtain⟨hl,hke⟩:=afu rfl hw.1;have hop:Dz 17=1:=rfl;have hwd:bQ (bW 17 [] vz (wL ks))++t1::R=kw [99,97,110,99,101,108]::(bQ (bp (wL ks))++sy [59]::(t1::R)):=by
     show bQ ([[99,97,110,99,101,108]]++(bp (wL ks)++[[59]]))++t1::R=_;rw[bd,bd,<-NR (o:=[99,97,110,99,101,108]) (by simp),<-C0 (o:=[59]) (by simp),lε,lε];rfl
    rw[hwd]at hn;have hT1:1<=hT (.n 17 [] vz ks):=by simp only[hT,hop];omega
    exact CQ ks hl (kex hke) hn h0 (by omega) (fun k hk=>by have:=hk24 k hk;omega) (Ny hn e)
  ·simp only[Tr.op]at ho;subst ho;obtain⟨rfl,rfl⟩:=Zu (by simp) hw.2.1;have hks:∀k∈ks,Wf k/\mw k.op=true:=fun k hk=>⟨(kd k hk).1,mG (p:=mw) hw.1 k hk⟩
   have hop:Dz 18=1:=rfl;have hT1:1<=hT (.n 18 [] vz ks):=by simp only[hT,hop];omega
   intro q f s u w R hn h0 h24 e;cases f with
   |zero=>cases e
   |succ f=>
    obtain⟨s3,s4,rfl,-,-,-,-,hl,hf⟩:=En (lim:= .ret ()) hks (fun k hk z u' v' t1 R' hz hnz he ee=>(kd k hk).2.2.1 (hks k hk).2 q f z u' v' R' t1 hnz he (by omega) (by have:=hk24 k hk;omega) ee) hn h0 (by omega) e;obtain⟨-,rfl⟩:=au hl;refine⟨?_,hf rfl⟩;simp only[Tr.sz];congr 1
def È (op:Int)(j:Nat):fiH op j<=1:=by
 unfold fiH;cases((eqI op 11||eqI op 12)&&Nat.beq j 0)<;>simp
def ac0 (op:Int):Dz op<=2:=by
 unfold Dz;cases eqI op 4<;>cases(eqI op 5||(eqI op 6||(eqI op 7||(eqI op 15||(eqI op 16||(eqI op 17||eqI op 18))))))<;>simp
mutual
def aaS:∀t:Tr,hT t<=3*t.sz
 | .n op nm v ks=>by
  have h1:=PG op ks 0;have h2:=ac0 op;simp only[hT,Tr.sz];omega
def PG (op:Int):∀(l:List Tr) (j:Nat),hL op j l<=3*eR l+1
 |[],j=>by simp only[hL];omega
 |t::r,j=>by
  have h1:=aaS t;have h2:=PG op r (j+1);have h3:=È op j;simp only[hL,eR];omega
end
def abn (hs:LI):Nat->List Tr->Prop
 |_,[]=>True
 |b,t::r=>hs[b+t.sz - 1]?=some (hT t:Int)/\abn hs (b+t.sz) r
def Õ (op:Int)(hs:LI):∀(l:List Tr) (b j m:Nat),abn hs b l->eR l<=1000000->m<=10000000->hK op hs (eJ b l) j (m:Int)=((max m (hL op j l):Nat):Int)
 |[],b,j,m,_,_,_=>by simp only[eJ,hK,hL,Nat.max_zero]
 |t::r,b,j,m,h,hs',hm=>by
  simp only[eR]at hs';have h1:=aaS t;have hg:hs.getD (b+t.sz - 1) 0=(hT t:Int):=by rw[lω,h.1];rfl
  have hw:ae .i64 ((hT t:Int)+1)=((hT t+1:Nat):Int):=by rw[cz (by omega) (by omega)];omega
  have hj:eqI (j:Int) 0=Nat.beq j 0:=by
   rw[bO,mε,lδ,Nat.beq_eq];omega
  have mx:∀x:Nat,(bif aO (m:Int) (x:Int)then(x:Int)else(m:Int))=((max m x:Nat):Int):=fun x=>by
   rw[cZ];by_cases hx:m<x
   ·rw[qδ (by omega),cond_true];omega
   ·rw[mρ (by omega),cond_false];omega
  simp only[eJ,hK,Int.toNat_natCast,hg,hw,hj,mx];have ih:=fun m' hm'=>Õ op hs r (b+t.sz) (j+1) m' h.2 (by omega) hm'
  have hf:(bif((eqI op 11||eqI op 12)&&Nat.beq j 0)then((max m (hT t+1):Nat):Int)else((max m (hT t):Nat):Int))=((max m (hT t+fiH op j):Nat):Int):=by
   unfold fiH;cases((eqI op 11||eqI op 12)&&Nat.beq j 0)<;>rfl
  have hfl:=È op j;rw[hf,ih _ (by omega)];simp only[hL];congr 1;omega
def Ô (op:Int)(m:Nat)(hm:m<=10000000):GU op (m:Int)=((Dz op+m:Nat):Int):=by
 have w2:ae .i64 ((m:Int)+2)=(m:Int)+2:=cz (by omega) (by omega);have w1:ae .i64 ((m:Int)+1)=(m:Int)+1:=cz (by omega) (by omega);unfold GU Dz;rw[w2,w1];cases eqI op 4<;>cases(eqI op 5||(eqI op 6||(eqI op 7||(eqI op 15||(eqI op 16||(eqI op 17||eqI op 18))))))<;>simp only[cond_true,cond_false]<;>omega
mutual
def aaR:∀(t:Tr) (b:Nat) (hs:LI),b+t.sz<=hs.length->t.sz<=1000000->∃hs':LI,(∀r,hN (t.fl b++r) b hs=hN r (b+t.sz) hs')/\hs'.length=hs.length/\(∀j<b,hs'[j]?=hs[j]?)/\hs'[b+t.sz - 1]?=some (hT t:Int)
 | .n op nm v ks,b,hs,hl,hm=>by
  simp only[Tr.sz]at hl hm;obtain⟨h1,e1,l1,k1,g1⟩:=Ö ks b hs (by omega) (by omega);have hk:=Õ op h1 ks b 0 0 g1 (by omega) (by omega);have hb:=PG op ks 0;have hv:GU op (hK op h1 (eJ b ks) 0 0)=(hT (.n op nm v ks):Int):=by
   have hk':hK op h1 (eJ b ks) 0 0=((max 0 (hL op 0 ks):Nat):Int):=hk;rw[hk',Nat.zero_max,Ô op _ (by omega)];simp only[hT]
  refine⟨h1.set (b+eR ks) (hT (.n op nm v ks):Int),fun r=>?_,by rw[List.length_set,l1],fun j hj=>?_,?_⟩
  ·simp only[Tr.fl,lε,List.singleton_append,Tr.sz];rw[e1];simp only[hN,hv];rfl
  ·rw[mψ (by omega),k1 j hj]
  ·simp only[Tr.sz];rw[show b+(eR ks+1) - 1=b+eR ks by omega,qη (by omega)]
def Ö:∀(l:List Tr) (b:Nat) (hs:LI),b+eR l<=hs.length->eR l<=1000000->∃hs':LI,(∀r,hN (iW l b++r) b hs=hN r (b+eR l) hs')/\hs'.length=hs.length/\(∀j<b,hs'[j]?=hs[j]?)/\abn hs' b l
 |[],b,hs,_,_=>⟨hs,fun r=>rfl,rfl,fun _ _=>rfl,trivial⟩
 |t::r,b,hs,hl,hm=>by
  simp only[eR]at hl hm;have hp:=xl t;obtain⟨h1,e1,l1,k1,g1⟩:=aaR t b hs (by omega) (by omega);obtain⟨h2,e2,l2,k2,g2⟩:=Ö r (b+t.sz) h1 (by omega) (by omega);refine⟨h2,fun r'=>?_,by omega,fun j hj=>by rw[k2 j (by omega),k1 j hj],⟨by rw[k2 _ (by omega),g1],g2⟩⟩
  simp only[iW,lε,eR];rw[e1,e2,Nat.add_assoc]
end
def VE {t:Tr}(h:t.sz<=1000000):cN (t.fl 0)=(hT t:Int):=by
 have hp:=xl t;obtain⟨hs,e,l,-,g⟩:=aaR t 0 (List.replicate t.sz 0) (by rw[List.length_replicate];omega) h;have e0:=e [];rw[lν]at e0;unfold cN;rw[gB,e0,lω];rw[Nat.zero_add]at g;show(hs[t.sz - 1]?).getD 0=_;rw[g];rfl
instance:Inhabited Tr:=⟨.n 0 [] vz []⟩
def ő (ns:List No)(t:Tr):Prop:=DI ns t 0/\t.sz=ns.length/\Wf t
def nz (ns:List No):Tr:=Classical.epsilon (ő ns)
variable {ns:List No}
def RK (h:∃t,ő ns t):ő ns (nz ns):=Classical.epsilon_spec h
def kO (f:Fe):List LN:=[[115,116,97,116,101],f.name,[58],ct f.kind,[61]]++(kL f.init++[[59]])
def mu (q:Pa):List LN:=[q.name,[58],ct q.kind]
def tj (k:Int):List LN:=bif eqI k 0 then[]else[[58],ct k]
def ll (m:Me):List LN:=[[109,101,116,104,111,100],m.name]++(bp (m.params.map mu)++(tj m.result++(nz m.nodes).w))
def m4 (a:Ac):List LN:=[[97,99,116,111,114],a.name,[123]]++(aF (a.fields.map kO)++(aF (a.methods.map ll)++[[125]]))
def fE (p:List Ac):List LN:=aF (p.map m4)
structure aag (f:Fe):Prop where
 c:nh f.init
 k:1<=f.kind/\f.kind<=5
structure aah (m:Me):Prop where
 ps:m.params.length<=100
 pk:∀q∈m.params,1<=q.kind/\q.kind<=5
 re:m.result=0\/1<=m.result/\m.result<=5
 nl:m.nodes.length<=2000
 bt:∃t,ő m.nodes t
 vo:∀x∈m.nodes,Rz x
structure Q1 (a:Ac):Prop where
 fl:a.fields.length<=100
 fs:∀f∈a.fields,aag f
 ml:a.methods.length<=100
 ms:∀m∈a.methods,aah m
def Lk {m:Nat}(T:LD)(nT iT:Int)(A:ba)(fs:List Fe)(nd:List No)(hf:∀f∈fs,aag f)(hm:110<=m)(hb:fs.length<bX)(k0:LD×Int×Int×LD×Int×Int×Bool×Nat×LD×LD×ba->R):∀(r:List Fe) (q i:Nat) (o:LN),fs.drop i=r->r.length<q->i<=fs.length->o.length+(av (aF (r.map kO))).length<cm->
  itL (fO (cE lay0.tab m) m k0) q (T,nT,iT,fs.map Fe.e,(fs.length:Int),(i:Int),(Wb o nd).bu,(Wb o nd).ns,(Wb o nd).ou,A)=k0 (T,nT,iT,fs.map Fe.e,(fs.length:Int),(fs.length:Int),false,(Wb (o++av (aF (r.map kO))) nd).bu,(Wb (o++av (aF (r.map kO))) nd).ns,(Wb (o++av (aF (r.map kO))) nd).ou,A)
 |[],q,i,o,hd,hq,hi,hl=>by
  cases q with
  |zero=>omega
  |succ q=>
   have hil:i=fs.length:=by
    grind
   subst hil;rw[aM];simp only[fO,dJ,aG,aF,List.map_nil,av,lν]
 |f::r,q,i,o,hd,hq,hi,hl=>by
  cases q with
  |zero=>omega
  |succ q=>
   have hlt:i<fs.length:=by
    grind
   rw[lι hlt]at hd;injection hd with ht hd;have hok:=hf f (ht▸lπ hlt);simp at hq;simp only[List.map_cons,aF,aJ,kO,lα]at hl;have e0:=evC_known (oc (m:=m) f.kind (by omega) hok.k);have e1:=gN (m:=m) [[115,116,97,116,101],f.name,[58],ct f.kind,[61]] o nd (by omega) (by simp) (by omega);have e2:=evC_known (xv (m:=m) f.init hok.c (o++av [[115,116,97,116,101],f.name,[58],ct f.kind,[61]]) nd (by omega) (by grind));have e3:=gN (m:=m) [[59]] (o++av [[115,116,97,116,101],f.name,[58],ct f.kind,[61]]++av (kL f.init)) nd (by omega) (by simp) (by grind);have ih:=Lk T nT iT A fs nd hf hm hb k0 r q (i+1) (o++av [[115,116,97,116,101],f.name,[58],ct f.kind,[61]]++av (kL f.init)++av [[59]]) hd (by omega) hlt (by grind);simp only[List.map_cons,List.map_nil]at e1 e3;have hw:(cG.mk (Wb o nd).bu (Wb o nd).ns (Wb o nd).ou)=Wb o nd:=rfl;have hat:cp (fs.map Fe.e) (i:Int)=some f.e:=by rw[bg,bI hlt,ht];rfl
   have hfin:o++av [[115,116,97,116,101],f.name,[58],ct f.kind,[61]]++av (kL f.init)++av [[59]]++av (aF (r.map kO))=o++av (aF ((f::r).map kO)):=by
    simp only[List.map_cons,aF,aJ,kO,lε]
   rw[hfin]at ih;rw[aM];simp -implicitDefEqProofs only[fO,fd (show((i:Int)<(fs.length:Int)) by omega),az,hat,bH,dFe,show f.r.Kind=f.kind from rfl,show f.r.Name=f.name from rfl,e0,aE,fo,ah,e1,aL,cF];refine(e2 _).trans ?_;simp -implicitDefEqProofs only[cF,e3,wS (show i<bX by omega)];exact ih
variable {m:Nat}
def aba (x:Me)(nd:List No)(j:Nat)(h:j<x.params.length)(o:LN)(hm:15<=m)(hk:1<=x.params[j].kind/\x.params[j].kind<=5)(hl:o.length+(av (mu x.params[j])).length<cm):
  Ω m 26 [pI (j:Int),.box 0 0,.box 3 0] [.box [.box 1 0],.box [.box 1 0,.arr 2 0 (Wb o nd).bu 1,pL 8 (Wb o nd).ns],.byt (Wb o nd).ou,x.r.b]=some (.tup [],(ō.mk (Wb (o++av (mu x.params[j])) nd).bu (Wb (o++av (mu x.params[j])) nd).ns x.r.Name x.r.Params x.r.Result x.r.Nodes (Wb (o++av (mu x.params[j])) nd).ou).hp):=by
 replace hm:=aH hm;obtain⟨m,rfl,hm⟩:=hm;refine OH m (PwQ.mk (Wb o nd).bu (Wb o nd).ns (Wb o nd).ou x.r.Name x.r.Params x.r.Result x.r.Nodes) (j:Int) _ ?_;unfold zR;have hw:(cG.mk (Wb o nd).bu (Wb o nd).ns (Wb o nd).ou)=Wb o nd:=rfl;have hat:cp x.r.Params (j:Int)=some x.params[j].e:=by show cp (x.params.map Pa.e) (j:Int)=_;rw[bg,bI h];rfl
 have e0:=evC_known (oc (m:=m) x.params[j].kind (by omega) hk);have e1:=gN (m:=m) (mu x.params[j]) o nd (by omega) (by simp[mu]) hl;simp only[mu,List.map_cons,List.map_nil]at e1;simp -implicitDefEqProofs only[hat,bH,dPa,show x.params[j].r.Kind=x.params[j].kind from rfl,show x.params[j].r.Name=x.params[j].name from rfl,e0,aE,fo,ah,e1,aL,cF,mu]
def BK {m:Nat}(T:LD)(nT iT:Int)(ms:List Me)(hf:∀x∈ms,aah x)(hm:20000<=m)(hb:ms.length<bX)(k0:LD×Int×Int×LD×Int×Int×Bool×Nat×LD×LD->R)(Z:R):∀(r:List Me) (q i:Nat) (o:LN) (nd:List No),ms.drop i=r->r.length<q->i<=ms.length->o.length+(av (aF (r.map ll))).length<cm->
  (∀nd',k0 (T,nT,iT,ms.map Me.e,(ms.length:Int),(ms.length:Int),false,(Wb (o++av (aF (r.map ll))) nd').bu,(Wb (o++av (aF (r.map ll))) nd').ns,(Wb (o++av (aF (r.map ll))) nd').ou)=Z)->
  itL (eF (cE lay0.tab m) m k0) q (T,nT,iT,ms.map Me.e,(ms.length:Int),(i:Int),(Wb o nd).bu,(Wb o nd).ns,(Wb o nd).ou)=Z
 |[],q,i,o,nd,hd,hq,hi,hl,hz=>by
  cases q with
  |zero=>simp at hq
  |succ q=>
   have hil:i=ms.length:=by
    have:=congrArg List.length hd;simp at this;omega
   subst hil;rw[aM];simp only[eF,dJ,aG];have:=hz nd;simp only[aF,List.map_nil,av,lν]at this;exact this
 |x::r,q,i,o,nd,hd,hq,hi,hl,hz=>by
  cases q with
  |zero=>simp at hq
  |succ q=>
   have hlt:i<ms.length:=by
    rcases lυ i ms.length with h|h
    ·exact h
    ·rw[mτ h]at hd;cases hd
   rw[lι hlt]at hd;injection hd with ht hd;have hok:=hf x (ht▸lπ hlt);simp only[List.length_cons]at hq;simp only[List.map_cons,aF,aJ,ll,lα]at hl;have hps:=hok.ps;have e1:=gN (m:=m) [[109,101,116,104,111,100],x.name] o nd (by omega) (by simp) (by omega);have e2:=ŗ (m:=m) x nd (x.params.map mu) (o++av [[109,101,116,104,111,100],x.name]) (by rw[lζ];omega) (by rw[lζ];unfold bX;omega) (by rw[lα];omega) (fun j hj o' ho=>by
    rw[lζ]at hj;rw[List.getElem_map]at ho ⊢
    exact aba x nd j hj o' (by omega) (hok.pk _ (lπ hj)) ho)
   rw[lζ]at e2;have e2:=evC_known e2;have hbt:=RK hok.bt;have htr:=Xf x.nodes (nz x.nodes) 0 m hbt.1 hbt.2.2 (Gb (fun _ _ _ _ _ h=>h) hok.vo _ _ hbt.1) (by have:=hok.nl;have:=hbt.2.1;omega) (by have:=hok.nl;have:=hbt.2.1;omega);have hne:1<=x.nodes.length:=by have:=xl (nz x.nodes);have:=hbt.2.1;omega
   have hix:ae .i64 ((x.nodes.length:Int) - 1)=((0+(nz x.nodes).sz - 1:Nat):Int):=by
    rw[hbt.2.1];have:=hok.nl;rw[cz (by omega) (by omega)];omega
   simp only[List.map_cons,List.map_nil]at e1;have hw:∀o nd,(cG.mk (Wb o nd).bu (Wb o nd).ns (Wb o nd).ou)=Wb o nd:=fun _ _=>rfl
   have hat:cp (ms.map Me.e) (i:Int)=some x.e:=by rw[bg,bI hlt,ht];rfl
   have hw2:∀o nd,(cG.mk (Wb o nd).bu x.r.Nodes (Wb o nd).ou)=Wb o x.nodes:=fun _ _=>rfl
   rw[aM];simp -implicitDefEqProofs only[eF,fd (show((i:Int)<(ms.length:Int)) by omega),az,hat,bH,dMe,show x.r.Name=x.name from rfl,hw,e1,aL,ah,cF,show x.r.Params.length=x.params.length from lζ _];refine(e2 _).trans ?_;simp -implicitDefEqProofs only[aL,ah,afh,show x.r.Result=x.result from rfl,hw,hw2,show x.r.Nodes.length=x.nodes.length from lζ _,hix,wS (show i<bX by omega)];cases hr:eqI x.result 0 with
   |true=>
    have hre:tj x.result=[]:=by unfold tj;rw[hr];rfl
    rw[hre,show av ([]:List LN)=[]from rfl,List.length_nil]at hl;have e3:=evC_known (htr (o++av [[109,101,116,104,111,100],x.name]++av (bp (x.params.map mu))) (by simp only[lα];omega));simp -implicitDefEqProofs only[Bool.not_true,aG,e3,aL,ah,cF];refine BK T nT iT ms hf hm hb k0 Z r q (i+1) _ x.nodes hd (by omega) hlt (by simp only[lα];omega) (fun nd'=>?_);have:=hz nd';simp only[List.map_cons,aF,aJ,ll,hre,show av ([]:List LN)=[]from rfl,List.nil_append,lε]at this ⊢
    exact this
   |false=>
    have hre:tj x.result=[[58],ct x.result]:=by unfold tj;rw[hr];rfl
    rw[hre]at hl;have hkr:1<=x.result/\x.result<=5:=by
     rcases hok.re with h|h
     ·rw[h]at hr;cases hr
     ·exact h
    have e0:=evC_known (oc (m:=m) x.result (by omega) hkr);have e4:=gN (m:=m) [[58],ct x.result] (o++av [[109,101,116,104,111,100],x.name]++av (bp (x.params.map mu))) nd (by omega) (by simp) (by simp only[lα];omega);have e3:=evC_known (htr (o++av [[109,101,116,104,111,100],x.name]++av (bp (x.params.map mu))++av [[58],ct x.result]) (by simp only[lα];omega));simp only[List.map_cons,List.map_nil]at e4;have hw3:∀o nd,({Wb o nd with ns:=x.r.Nodes}:cG)=Wb o x.nodes:=fun _ _=>rfl
    simp -implicitDefEqProofs only[Bool.not_false,az,e0,aE,fo,ah,e4,aL,cF,hw2,e3];refine BK T nT iT ms hf hm hb k0 Z r q (i+1) _ x.nodes hd (by omega) hlt (by simp only[lα];omega) (fun nd'=>?_);have:=hz nd';simp only[List.map_cons,aF,aJ,ll,hre,lε]at this ⊢
    exact this
def afc (c:zg)(K:zg->R):aaI c.hp K=K c:=rfl
def afe (c:PwD)(K:PwD->R):aaK c.hp K=K c:=rfl
def T6 (o:LN)(nd:List No)(hb:By o)(ho:o≠[])(hm:1<=m)(hl:o.length<cm):Ω m 28 [.box 0 0] (Wb o nd).hp=some (pS o,(PwD.mk o.length (nd.map No.e)).hp):=by
 replace hm:=aH hm;obtain⟨m,rfl,hm⟩:=hm;refine OJ m (Wb o nd) _ ?_;unfold zT;have hpos:0<o.length:=List.length_pos_iff.2 ho;have h0:Nat.beq (Wb o nd).bu 0=false:=by
  show Nat.beq o.length 0=false;cases h:Nat.beq o.length 0 with
  |false=>rfl
  |true=>have:=lη h;omega
 have h1:(Nat.beq 0 0&&(aS 1 ((Wb o nd).bu:Int)&&aS ((Wb o nd).bu:Int) 9223372036854775807&&Nat.ble (0+Int.toNat ((Wb o nd).bu:Int)) (List.length (Wb o nd).ou)))=true:=by
  show(Nat.beq 0 0&&(aS 1 (o.length:Int)&&aS (o.length:Int) 9223372036854775807&&Nat.ble (0+Int.toNat (o.length:Int)) (o.map tv).length))=true;rw[ji (by omega),ji (by unfold cm at hl;omega),lζ,Int.toNat_natCast,Nat.zero_add];simp
 have h2:cX (List.take (Int.toNat ((Wb o nd).bu:Int)) (List.drop 0 (Wb o nd).ou))=some o:=by
  show cX (List.take (Int.toNat (o.length:Int)) (List.drop 0 (o.map tv)))=some o;rw[Int.toNat_natCast,List.drop_zero,mβ (by rw[lζ];exact Nat.le_refl _)];exact AW o hb
 rw[h0,aG,h1,az,h2,bH];rfl
def T5 (ns:LD)(hm:1<=m):Ω m 28 [.box 0 0] (zg.mk ns).hp=some (pS [],(zg.mk ns).hp):=by
 replace hm:=aH hm;obtain⟨m,rfl,hm⟩:=hm;exact OI m (zg.mk ns) _ rfl
def Kf (T:LD)(nT iT:Int)(a:Ac)(h:Q1 a)(hm:20000<=m)(Y:LD×Int×Int×Nat×LD×LD->R)(Z:R)(o:LN)(nd:List No)(hl:o.length+((av (aF (a.fields.map kO))).length+((av (aF (a.methods.map ll))).length+(av [[125]]).length))<cm)(hz:∀nd',Y (T,nT,ae .i64 (iT+1),(Wb (o++av (aF (a.fields.map kO))++av (aF (a.methods.map ll))++av [[125]]) nd').bu,(Wb (o++av (aF (a.fields.map kO))++av (aF (a.methods.map ll))++av [[125]]) nd').ns,(Wb (o++av (aF (a.fields.map kO))++av (aF (a.methods.map ll))++av [[125]]) nd').ou)=Z):
  itL (fO (cE lay0.tab m) m (fun(l111,i112,i113,l114,i115,i116,b117,n118,l119,l120,u121)=>itL (eF (cE lay0.tab m) m (fun(l122,i123,i124,l125,i126,i127,b128,n129,l130,l131)=>cE lay0.tab m 22 [(.box 0 0),(pL 1 [Da.str [125]])] (cG.mk n129 l130 l131).hp fun d132 o133=>aI d132 fun r134=>ag r134<|bh o133 fun u135=>Y (l122,i123,ae .i64 (i124+1),u135.bu,u135.ns,u135.ou))) m (l111,i112,i113,u121.Methods,↑(List.length u121.Methods),0,n118,l119,l120))) m (T,nT,iT,a.r.Fields,↑(List.length a.r.Fields),0,(Wb o nd).bu,(Wb o nd).ns,(Wb o nd).ou,a.r)=Z:=by
 have hf:=h.fl;have hml:=h.ml;have rf:a.r.Fields=a.fields.map Fe.e:=rfl;have rm:a.r.Methods=a.methods.map Me.e:=rfl;rw[rf,lζ];refine(Lk T nT iT a.r a.fields nd h.fs (by omega) (by unfold bX;omega) _ a.fields m 0 o rfl (by omega) (Nat.zero_le _) (by omega)).trans ?_;show itL (eF (cE lay0.tab m) m _) m (T,nT,iT,a.r.Methods,↑(List.length a.r.Methods),0,_,_,_)=Z;rw[rm,lζ];refine BK T nT iT a.methods h.ms hm (by unfold bX;omega) _ Z a.methods m 0 (o++av (aF (a.fields.map kO))) nd rfl (by omega) (Nat.zero_le _) (by rw[lα];omega) (fun nd'=>?_);have e:=gN (m:=m) [[125]] (o++av (aF (a.fields.map kO))++av (aF (a.methods.map ll))) nd' (by omega) (by simp) (by simp only[lα];omega);simp only[List.map_cons,List.map_nil]at e;have hw:∀o nd,(cG.mk (Wb o nd).bu (Wb o nd).ns (Wb o nd).ou)=Wb o nd:=fun _ _=>rfl
 simp -implicitDefEqProofs only[hw,e,aL,ah,cF];exact hz nd'
def Kg {m:Nat}(p:List Ac)(hf:∀a∈p,Q1 a)(hm:20000<=m)(hb:p.length<bX)(k0:LD×Int×Int×Bool×Nat×LD×LD->R)(Z:R):∀(r:List Ac) (q i:Nat) (o:LN) (nd:List No),p.drop i=r->r.length<q->i<=p.length->o.length+(av (aF (r.map m4))).length<cm->
  (∀nd',k0 (p.map Ac.e,(p.length:Int),(p.length:Int),false,(Wb (o++av (aF (r.map m4))) nd').bu,(Wb (o++av (aF (r.map m4))) nd').ns,(Wb (o++av (aF (r.map m4))) nd').ou)=Z)->
  itL (fP (cE lay0.tab m) m k0) q (p.map Ac.e,(p.length:Int),(i:Int),(Wb o nd).bu,(Wb o nd).ns,(Wb o nd).ou)=Z
 |[],q,i,o,nd,hd,hq,hi,hl,hz=>by
  cases q with
  |zero=>simp at hq
  |succ q=>
   have hil:i=p.length:=by
    have:=congrArg List.length hd;simp at this;omega
   subst hil;rw[aM];simp only[fP,dJ,aG];have:=hz nd;simp only[aF,List.map_nil,av,lν]at this;exact this
 |a::r,q,i,o,nd,hd,hq,hi,hl,hz=>by
  cases q with
  |zero=>simp at hq
  |succ q=>
   have hlt:i<p.length:=by
    rcases lυ i p.length with h|h
    ·exact h
    ·rw[mτ h]at hd;cases hd
   rw[lι hlt]at hd;injection hd with ht hd;have hok:=hf a (ht▸lπ hlt);simp only[List.length_cons]at hq;simp only[List.map_cons,aF,aJ,m4,lα]at hl;have e1:=gN (m:=m) [[97,99,116,111,114],a.name,[123]] o nd (by omega) (by simp) (by omega);simp only[List.map_cons,List.map_nil]at e1;have hw:∀o nd,(cG.mk (Wb o nd).bu (Wb o nd).ns (Wb o nd).ou)=Wb o nd:=fun _ _=>rfl
   have hat:cp (p.map Ac.e) (i:Int)=some a.e:=by rw[bg,bI hlt,ht];rfl
   rw[aM];simp -implicitDefEqProofs only[fP,fd (show((i:Int)<(p.length:Int)) by omega),az,hat,bH,dAc,show a.r.Name=a.name from rfl,hw,e1,aL,ah,cF];refine Kf (p.map Ac.e) (p.length:Int) (i:Int) a hok hm (itL (fP (cE lay0.tab m) m k0) q) Z (o++av [[97,99,116,111,114],a.name,[123]]) nd (by rw[lα];omega) (fun nd'=>?_);rw[wS (show i<bX by omega)];refine Kg p hf hm hb k0 Z r q (i+1) _ nd' hd (by omega) hlt (by simp only[lα];omega) (fun nd2=>?_);have:=hz nd2;simp only[List.map_cons,aF,aJ,m4,lε]at this ⊢
   exact this
def W5 (p:List Ac)(hv:Ω m 9 [.p (.agg [.slice 3 (p.map Ac.e)])] []=some (pB true,[]))(hf:∀a∈p,Q1 a)(hp:p.length<=100)(hm:20001<=m)(hby:By (av (fE p)))(hl:(av (fE p)).length<cm):
  Ω (m+1) 10 [.p (.agg [.slice 3 (p.map Ac.e)])] []=some (pS (av (fE p)),[]):=by
 refine UB m ⟨p.map Ac.e⟩ _ ?_;unfold DW;have hv':Ω m 9 [.p (bL.mk (p.map Ac.e)).e] []=some (pB true,[]):=hv;simp -implicitDefEqProofs only[evC_known hv',aE,aj,ah,Bool.not_true,aG];obtain⟨m,rfl⟩:∃k,m=k+1:=⟨m - 1,by omega⟩
 rw[aeh,lζ];cases p with
 |nil=>
  have e:=evC_known (T5 (m:=m+1) [] (by omega));simp -implicitDefEqProofs only[List.map_nil,List.length_nil,show aO 0 ((0:Nat):Int)=false from rfl,aG,e,aE,fo,afc];rfl
 |cons a r=>
  have hok:=hf a (by simp);have hl':=hl;simp only[fE,List.map_cons,aF,aJ,m4,lα]at hl';simp only[List.length_cons]at hp;have e1:=abb (m:=m+1) [97,99,116,111,114] a.name [123] [] (by omega) (by omega);have e1:=evC_known e1;have hat:cp ((a::r).map Ac.e) 0=some a.e:=rfl;rw[fd (by simp only[List.length_cons];omega),az];simp -implicitDefEqProofs only[hat,bH,dAc,show a.r.Name=a.name from rfl];refine(e1 _).trans ?_;simp -implicitDefEqProofs only[aL,ah,cF];have hfin:av [[97,99,116,111,114],a.name,[123]]++av (aF (a.fields.map kO))++av (aF (a.methods.map ll))++av [[125]]++av (aF (r.map m4))=av (fE (a::r)):=by
   simp only[fE,List.map_cons,aF,aJ,m4,lε]
  refine Kf ((a::r).map Ac.e) (((a::r).length:Nat):Int) 0 a hok (by omega) (itL (fP (cE lay0.tab (m+1)) (m+1) _) m) _ (av [[97,99,116,111,114],a.name,[123]]) [] (by omega) (fun nd'=>?_);rw[show ae .i64 (0+1)=((1:Nat):Int)from cz (by decide) (by decide)];refine Kg (a::r) hf (by omega) (by unfold bX;simp only[List.length_cons];omega) _ _ r m 1 _ nd' rfl (by omega) (by simp) (by simp only[lα];omega) (fun nd2=>?_);have hw:∀o nd,(cG.mk (Wb o nd).bu (Wb o nd).ns (Wb o nd).ou)=Wb o nd:=fun _ _=>rfl
  rw[hfin];have hne:av (fE (a::r))≠[]:=by
   rw[<-hfin];simp[av]
  have e9:=evC_known (T6 (m:=m+1) (av (fE (a::r))) nd2 hby hne (by omega) hl);simp -implicitDefEqProofs only[hw,e9,aE,fo,afe]
def Sm.tr {a b c:PS}(h:Sm a b 0)(g:Sm b c 0):Sm a c 0:=⟨by have:=h.ne;have:=g.ne;omega,g.nd.trans h.nd,g.tt.trans h.tt⟩
def Cw (s:PS):Sm s s.up 0:=⟨(Int.add_zero _).symm,rfl,rfl⟩
def Hx {s s':PS}{t t':Tk}{R:List Tk}(h:Nx s (t::R))(hp:bc t=true)(e:jk t.k s=some (t',s')):t'.s=t.s/\t'.n=t.n/\Nx s' R/\Sm s s' 0:=by
 obtain⟨-,e⟩:=bb e;unfold PS.take at e;obtain⟨a1,a2,a3⟩:=h.k hp;rw[a1,show eqI t.k t.k=true from eqT rfl,cond_true]at e;injection e with e1 e2;subst e1 e2;exact⟨a2,a3,h.up,Cw s⟩
def SE {i:Int}(h: -9223372036854775808<i/\i<=9223372036854775807):(i<0/\bQ (iA i)=[sy [45],⟨3,ew (-i),-i,0⟩])\/(0<=i/\bQ (iA i)=[⟨3,ew i,i,0⟩]):=by
 unfold iA;by_cases h0:i<0
 ·left;rw[fd h0,cond_true];refine⟨h0,?_⟩;show[bD [45],bD (ew (-i))]=_;rw[(CP (show 0<= -i by omega) (by omega)).2,(Iw (o:=[45]) (by simp)).1]
 ·right;rw[tz h0,cond_false];refine⟨by omega,?_⟩
  show[bD (ew i)]=_;rw[(CP (show 0<=i by omega) (by omega)).2]
def SD {s u:PS}{n i:Int}{R:List Tk}(h: -9223372036854775808<i/\i<=9223372036854775807)(hn:Nx s (bQ (iA i)++R))(e:pInt s=some (n,u)):n=i/\Nx u R/\Sm s u 0:=by
 rcases SE h with⟨h0,ht⟩|⟨h0,ht⟩
 ·rw[ht]at hn;replace e:=dF (c:=fun s=>s.is [45]) (Fi hn (by rfl)) e;obtain⟨_,s1,e1,e⟩:=aa e;obtain⟨hn1,hm1⟩:=kx hn e1;obtain⟨t,s2,e2,e⟩:=aa e;obtain⟨rfl,rfl⟩:=au e;obtain⟨-,h2,h3,h4⟩:=Hx (t:=⟨3,ew (-i),-i,0⟩) hn1 (ji (show(0:Int)<= -i by omega)) e2;refine⟨?_,h3,hm1.tr h4⟩;rw[h2];show ae .i64 (0 - -i)=i;rw[cz (by omega) (by omega)];omega
 ·rw[ht]at hn;replace e:=aY (c:=fun s=>s.is [45]) ((hn.isA _).trans (Ht (.inl rfl))) e;obtain⟨t,s2,e2,e⟩:=aa e;obtain⟨rfl,rfl⟩:=au e;obtain⟨-,h2,h3,h4⟩:=Hx (t:=⟨3,ew i,i,0⟩) hn (ji h0) e2;simp_all
def PJ {s:PS}{i:Int}{R:List Tk}(h: -9223372036854775808<i/\i<=9223372036854775807)(hn:Nx s (bQ (iA i)++R)):(s.is [45]||eqI (s.peek 0).k 3)=true/\eqI (s.peek 0).k 4=false/\∀x,bv x [45]=false->s.is x=false:=by
 rcases SE h with⟨h0,ht⟩|⟨h0,ht⟩
 ·rw[ht]at hn;replace hn:Nx s (sy [45]::⟨3,ew (-i),-i,0⟩::R):=hn;refine⟨by rw[Fi hn (x:=[45]) (b:=true) (by kernel_rfl)];rfl,by rw[(hn.k (by kernel_rfl)).1];rfl,fun x hx=>?_⟩
  rw[hn.isA];unfold eB;rw[show bv [45] x=bv x [45] by rw[ec,ec,mε,lδ,lδ];exact eq_comm,hx,Bool.and_false,Bool.and_false]
 ·rw[ht]at hn;replace hn:Nx s (⟨3,ew i,i,0⟩::R):=hn;have hk:=(hn.k (t:=⟨3,ew i,i,0⟩) (ji h0)).1;refine⟨by rw[hk];exact Bool.or_true _,by rw[hk];rfl,fun x hx=>?_⟩
  rw[hn.isA];exact Ht (.inl rfl)
def Iy {t:LN}(h:By t/\t.length<=64):bQ [gv t]=[⟨4,t,0,0⟩]:=by
 show[bD (gv t)]=_;rw[(IA h.1 h.2).2]
def ϔ {s u:PS}{v v':Va}{R:List Tk}(hv:kE v=true)(hk:1<=v.k/\v.k<=5)(hc:nh v)(hn:Nx s (bQ (kL v)++sy [59]::R))(e:oX q s=some (v',u)):v'=v/\Nx u (sy [59]::R)/\Sm s u 0/\cY v.k s=true:=by
 obtain⟨-,-,c1,c2,c3,c4⟩:=ry hv;obtain⟨k,n,t,I,L⟩:=v;simp at hk c1 c2 c3 c4;have hk':k=1\/k=2\/k=3\/k=4\/k=5:=by omega
 rcases hk' with rfl|rfl|rfl|rfl|rfl
 ·obtain rfl:=c2.resolve_right (by omega);obtain rfl:=c3.resolve_right (by omega);obtain rfl:=c4.resolve_right (by omega);obtain⟨h1,h2,h3⟩:=PJ hc.n hn;have hf:cY 1 s=true:=h1;replace e:=aY (c:=fun s=>s.is [115,116,114,105,110,103,115]) (h3 _ (by rfl)) (aY (c:=fun s=>s.is [105,110,116,115]) (h3 _ (by rfl)) (aY (c:=fun s=>s.is [102,97,108,115,101]) (h3 _ (by rfl)) (aY (c:=fun s=>s.is [116,114,117,101]) (h3 _ (by rfl)) (aY (c:=fun s=>eqI (s.peek 0).k 4) h2 e))));obtain⟨m,s1,e1,e⟩:=aa e;obtain⟨rfl,rfl⟩:=au e;obtain⟨rfl,g1,g2⟩:=SD hc.n hn e1;exact⟨rfl,g1,g2,hf⟩
 ·obtain rfl:=c2.resolve_right (by omega);obtain rfl:=c3.resolve_right (by omega);obtain rfl:=c4.resolve_right (by omega);obtain⟨b,rfl⟩:∃b:Bool,n=bif b then 1 else 0:=by
   simp_all
  have hw:bQ (kL ⟨2,bif b then 1 else 0,[],[],[]⟩)=[kw (bif b then[116,114,117,101]else[102,97,108,115,101])]:=by cases b<;>kernel_rfl
  rw[hw]at hn;have h4:eqI (s.peek 0).k 4=false:=by
   rw[(hn.k (by cases b<;>kernel_rfl)).1];rfl
  replace e:=aY (c:=fun s=>eqI (s.peek 0).k 4) h4 e;cases b with
  |true=>
   have ht:=bB hn (x:=[116,114,117,101]) (b:=true) (by rfl);replace e:=dF (c:=fun s=>s.is [116,114,117,101]) ht e;obtain⟨-,e⟩:=bb e;injection e with e1 e2;subst e1 e2;refine⟨rfl,hn.up,Cw s,?_⟩;show(s.is [116,114,117,101]||s.is [102,97,108,115,101])=true;grind
  |false=>
   have ht:=bB hn (x:=[102,97,108,115,101]) (b:=true) (by rfl);replace e:=dF (c:=fun s=>s.is [102,97,108,115,101]) ht (aY (c:=fun s=>s.is [116,114,117,101]) (bB hn (by rfl)) e);obtain⟨-,e⟩:=bb e;injection e with e1 e2;subst e1 e2;refine⟨rfl,hn.up,Cw s,?_⟩;show(s.is [116,114,117,101]||s.is [102,97,108,115,101])=true;simp_all
 ·obtain rfl:n=0:=by omega
  obtain rfl:=c3.resolve_right (by omega);obtain rfl:=c4.resolve_right (by omega);have hw:bQ (kL ⟨3,0,t,[],[]⟩)=[⟨4,t,0,0⟩]:=Iy hc.s;rw[hw]at hn;obtain⟨a1,a2,-⟩:=hn.k (t:=⟨4,t,0,0⟩) (ji (show(t.length:Int)<=64 by have:=hc.s.2;grind));have h4:eqI (s.peek 0).k 4=true:=by rw[a1];rfl
  replace e:=dF (c:=fun s=>eqI (s.peek 0).k 4) h4 e;obtain⟨-,e⟩:=bb e;injection e with e1 e2;subst e1 e2;refine⟨by rw[a2],hn.up,Cw s,h4⟩
 ·obtain rfl:n=0:=by omega
  obtain rfl:=c2.resolve_right (by omega);obtain rfl:=c4.resolve_right (by omega);have hw:bQ (kL ⟨4,0,[],I,[]⟩)++sy [59]::R=kw [105,110,116,115]::sy [40]::(bQ (bU 0 (I.map iA))++sy [41]::sy [59]::R):=by
   rw[show kL ⟨4,0,[],I,[]⟩=[105,110,116,115]::bp (I.map iA)from rfl,gO,List.cons_append,oQ,show bD [105,110,116,115]=kw [105,110,116,115] by rfl]
  rw[hw]at hn;have h4:eqI (s.peek 0).k 4=false:=by rw[(hn.k (by rfl)).1];rfl
  have hi:=bB hn (x:=[105,110,116,115]) (b:=true) (by rfl);replace e:=dF (c:=fun s=>s.is [105,110,116,115]) hi (aY (c:=fun s=>s.is [102,97,108,115,101]) (bB hn (by rfl)) (aY (c:=fun s=>s.is [116,114,117,101]) (bB hn (by rfl)) (aY (c:=fun s=>eqI (s.peek 0).k 4) h4 e)));obtain⟨_,s1,e1,e⟩:=aa e;obtain⟨hn1,hm1⟩:=kx hn e1;obtain⟨_,s2,e2,e⟩:=aa e;obtain⟨hn2,hm2⟩:=ez hn1 (by rfl) e2;obtain⟨l,s3,e3,e⟩:=aa e;have key:=zm (I.map iA) (fun i w l=>Sm s w 0/\l=I.take i)
   (fun i h w z l l' R' t1 hw hj ht ee=>by
    obtain⟨j1,j2⟩:=hj;have hi:i<I.length:=by grind
    rw[List.getElem_map]at hw;obtain⟨x,ee2,-,rfl⟩:=cf ee;obtain⟨rfl,g1,g2⟩:=SD (hc.I.2 _ (lπ hi)) hw ee2;exact⟨⟨j1.tr g2,by simp_all⟩,g1⟩)
   (fun i w l hj=>⟨hj.1.tr (Cw w),hj.2⟩)
   (fun i h w R' hw=>by
    have hi:i<I.length:=by grind
    rw[List.getElem_map]at hw;obtain⟨h1,-,h3⟩:=PJ (hc.I.2 _ (lπ hi)) hw;exact⟨h1,h3 _ (by rfl)⟩)
   (by have:=hc.I.1;simp_all) hn2 ⟨hm1.tr hm2,rfl⟩ e3
  obtain⟨⟨j1,j2⟩,hn3⟩:=key;obtain⟨_,s4,e4,e⟩:=aa e;obtain⟨hn4,hm4⟩:=ez hn3 (by rfl) e4;obtain⟨rfl,rfl⟩:=au e;rw[lζ,List.take_length]at j2;subst j2;exact⟨rfl,hn4,j1.tr hm4,hi⟩
 ·obtain rfl:n=0:=by omega
  obtain rfl:=c2.resolve_right (by omega);obtain rfl:=c3.resolve_right (by omega);have hw:bQ (kL ⟨5,0,[],[],L⟩)++sy [59]::R=kw [115,116,114,105,110,103,115]::sy [40]::(bQ (bU 0 (L.map fun t=>[gv t]))++sy [41]::sy [59]::R):=by
   rw[show kL ⟨5,0,[],[],L⟩=[115,116,114,105,110,103,115]::bp (L.map fun t=>[gv t])from rfl,gO,List.cons_append,oQ,show bD [115,116,114,105,110,103,115]=kw [115,116,114,105,110,103,115] by rfl]
  rw[hw]at hn;have h4:eqI (s.peek 0).k 4=false:=by rw[(hn.k (by rfl)).1];rfl
  have hi:=bB hn (x:=[115,116,114,105,110,103,115]) (b:=true) (by rfl);replace e:=dF (c:=fun s=>s.is [115,116,114,105,110,103,115]) hi (aY (c:=fun s=>s.is [105,110,116,115]) (bB hn (by rfl)) (aY (c:=fun s=>s.is [102,97,108,115,101]) (bB hn (by rfl)) (aY (c:=fun s=>s.is [116,114,117,101]) (bB hn (by rfl)) (aY (c:=fun s=>eqI (s.peek 0).k 4) h4 e))));obtain⟨_,s1,e1,e⟩:=aa e;obtain⟨hn1,hm1⟩:=kx hn e1;obtain⟨_,s2,e2,e⟩:=aa e;obtain⟨hn2,hm2⟩:=ez hn1 (by rfl) e2;obtain⟨l,s3,e3,e⟩:=aa e;have fst:∀(i:Nat) (h:i<L.length) (w:PS) (R':List Tk),Nx w (bQ ((L.map fun t=>[gv t])[i]'(by simp_all))++R')->Nx w (⟨4,L[i],0,0⟩::R')/\bc ⟨4,L[i],0,0⟩=true:=fun i h w R' hw=>by
   have hl:=hc.L.2 _ (lπ h);rw[List.getElem_map,Iy hl]at hw;exact⟨hw,ji (show(L[i].length:Int)<=64 by omega)⟩
  have key:=zm (L.map fun t=>[gv t]) (fun i w l=>Sm s w 0/\l=L.take i)
   (fun i h w z l l' R' t1 hw hj ht ee=>by
    obtain⟨j1,j2⟩:=hj;have hi:i<L.length:=by grind
    obtain⟨hw,hp⟩:=fst i hi w _ hw;obtain⟨x,ee2,-,rfl⟩:=cf ee;obtain⟨t,w1,ee3,ee2⟩:=aa ee2;obtain⟨rfl,rfl⟩:=au ee2;obtain⟨g0,-,g1,g2⟩:=Hx (t:=⟨4,L[i],0,0⟩) hw hp ee3;exact⟨⟨j1.tr g2,by simp_all⟩,g1⟩)
   (fun i w l hj=>⟨hj.1.tr (Cw w),hj.2⟩)
   (fun i h w R' hw=>by
    have hi:i<L.length:=by grind
    obtain⟨hw,hp⟩:=fst i hi w _ hw;refine⟨?_,?_⟩
    ·unfold Kn;rw[(hw.k hp).1];rfl
    ·rw[hw.isA];exact Ht (.inr rfl))
   (by have:=hc.L.1;simp_all) hn2 ⟨hm1.tr hm2,rfl⟩ e3
  obtain⟨⟨j1,j2⟩,hn3⟩:=key;obtain⟨_,s4,e4,e⟩:=aa e;obtain⟨hn4,hm4⟩:=ez hn3 (by rfl) e4;obtain⟨rfl,rfl⟩:=au e;rw[lζ,List.take_length]at j2;subst j2;exact⟨rfl,hn4,j1.tr hm4,hi⟩
def KK {s:PS}{v:Va}{R:List Tk}(hn:Nx s (bQ (kL v)++R))(hv:kE v=true)(hk:1<=v.k/\v.k<=5)(hc:nh v):cY v.k s=true:=by
 obtain⟨-,-,c1,c2,c3,c4⟩:=ry hv;obtain⟨k,n,t,I,L⟩:=v;simp at hk c1 c2 c3 c4;have hk':k=1\/k=2\/k=3\/k=4\/k=5:=by omega
 rcases hk' with rfl|rfl|rfl|rfl|rfl
 ·exact(PJ hc.n hn).1
 ·have hb:=hc.b rfl;rcases hb with rfl|rfl
  ·show(s.is [116,114,117,101]||s.is [102,97,108,115,101])=true;rw[bB hn (x:=[102,97,108,115,101]) (b:=true) (by rfl),Bool.or_true]
  ·show(s.is [116,114,117,101]||s.is [102,97,108,115,101])=true;rw[bB hn (x:=[116,114,117,101]) (b:=true) (by rfl)];rfl
 ·have hw:bQ (kL ⟨3,n,t,I,L⟩)=[⟨4,t,0,0⟩]:=Iy hc.s;rw[hw]at hn;show eqI (s.peek 0).k 4=true;rw[(hn.k (t:=⟨4,t,0,0⟩) (ji (show(t.length:Int)<=64 by have:=hc.s.2;grind))).1];rfl
 ·exact bB hn (by rfl)
 ·exact bB hn (by rfl)
def Vu {s u:PS}{f f':Fe}{R:List Tk}(hv:dz f=true)(hc:nh f.init)(hn:Nx s (bQ (kO f)++R))(e:kR q s=some (f',u)):f'=f/\Nx u R/\Sm s u 0:=by
 unfold dz at hv;simp only[lγ,bO,lδ]at hv;obtain⟨g1,g2,g3,g4,-⟩:=hv;unfold eI at g2;simp only[lγ,cn,lδ]at g2;have hw:bQ (kO f)++R=kw [115,116,97,116,101]::bD f.name::sy [58]::bD (ct f.kind)::sy [61]::(bQ (kL f.init)++sy [59]::R):=by
  show bQ ([[115,116,97,116,101],f.name,[58],ct f.kind,[61]]++(kL f.init++[[59]]))++R=_;rw[bd,bd,<-NR (o:=[115,116,97,116,101]) (by simp),<-C0 (o:=[58]) (by simp),<-C0 (o:=[61]) (by simp),<-C0 (o:=[59]) (by simp),lε,lε];rfl
 rw[hw]at hn;obtain⟨_,s1,e1,e⟩:=aa e;obtain⟨hn1,hm1⟩:=ez hn (by rfl) e1;obtain⟨n,s2,e2,e⟩:=aa e;obtain⟨rfl,hn2,hm2⟩:=mP g1 hn1 e2;obtain⟨_,s3,e3,e⟩:=aa e;obtain⟨hn3,hm3⟩:=ez hn2 (by rfl) e3;obtain⟨k,s4,e4,e⟩:=aa e;obtain⟨rfl,hn4,hm4⟩:=zB g2 hn3 e4;obtain⟨_,s5,e5,e⟩:=aa e;obtain⟨hn5,hm5⟩:=ez hn4 (by rfl) e5;obtain⟨_,s6,e6,e⟩:=aa e;obtain⟨v,s7,e7,e⟩:=aa e;obtain⟨-,e6⟩:=bb e6;have hs6:s6=s5:=by
  cases hf:cY f.kind s5 with
  |true=>simp_all
  |false=>
   have key:cY f.init.k s5=true:=KK hn5 g4 (by omega) hc;simp_all
 rw[hs6]at e7;obtain⟨rfl,hn7,hm7,-⟩:=ϔ g4 (by omega) hc hn5 e7;obtain⟨_,s8,e8,e⟩:=aa e;obtain⟨hn8,hm8⟩:=ez hn7 (by rfl) e8;obtain⟨rfl,rfl⟩:=au e;refine⟨rfl,hn8,((((hm1.tr hm2).tr hm3).tr hm4).tr hm5).tr (hm7.tr hm8)⟩
def oO {k:Int}(h:eI k=true):1<=k/\k<=5:=by
 unfold eI at h;simp only[lγ,cn,lδ]at h;exact h
def Wk {s u:PS}{p p':Pa}{R:List Tk}(h1:bw p.name=true)(h2:eI p.kind=true)(hn:Nx s (bQ (mu p)++R))(e:kT s=some (p',u)):p'=p/\Nx u R/\Sm s u 0:=by
 have hw:bQ (mu p)++R=bD p.name::sy [58]::bD (ct p.kind)::R:=by
  rfl
 obtain⟨n,s2,e2,e⟩:=aa e;obtain⟨rfl,hn2,hm2⟩:=mP h1 hn e2;obtain⟨_,s3,e3,e⟩:=aa e;obtain⟨hn3,hm3⟩:=ez hn2 (by rfl) e3;obtain⟨k,s4,e4,e⟩:=aa e;obtain⟨rfl,hn4,hm4⟩:=zB (oO h2) hn3 e4;obtain⟨rfl,rfl⟩:=au e;exact⟨rfl,hn4,(hm2.tr hm3).tr hm4⟩
def Pc (h:gz ns=true):∃ks,nz ns= .n 18 [] vz ks/\(nz ns).fl 0=ns/\(nz ns).sz=ns.length/\Wf (nz ns)/\DI ns (nz ns) 0:=by
 obtain⟨t,h1,h2,h3,h4,h5,-⟩:=wv h;obtain⟨a1,a2,a3⟩:=RK ⟨t,h2,h3,h4⟩;have he:=YW _ 0 a1;rw[List.drop_zero,a2,List.take_length]at he;have o1:=rp _ 0 a1;have o2:=rp t 0 h2;rw[a2,<-h3,o2,h5]at o1;refine(?_:∃ks,nz ns= .n 18 [] vz ks).imp fun ks hk=>⟨hk,he.symm,a2,a3,a1⟩
 cases hb:nz ns with
 |n op nm v ks=>
  rw[hb]at o1 a3;simp only[Tr.op]at o1;subst o1;simp only[Wf]at a3;obtain⟨rfl,rfl⟩:=Zu (by simp) a3.2.1;exact⟨ks,rfl⟩
variable {f:Nat}
def Y6 {s u:PS}{ns':List No}{R:List Tk}(hb:gz ns=true)(hd:∀x∈ns,eV x)(h0:0<=s.tt)(hl:s.tt+(ns.length:Int)<=1500)(hn:Nx s (bQ (nz ns).w++R))(e:sb f q s=some (ns',u)):ns'=ns/\Nx u R/\u.tt=s.tt+(ns.length:Int):=by
 obtain⟨ks,h1,h2,h3,h4,h5⟩:=Pc hb;have hv:=Gb (P:=eV) (fun op nm v a b h=>h) hd _ 0 h5;rw[h1]at h2 h3 h4 hv hn;have hks:∀k∈ks,Wf k/\mw k.op=true:=fun k hk=>⟨vV h4.2.2 hk,mG (p:=mw) h4.1 k hk⟩
 have hht:cN ns<=24:=by
  unfold gz at hb;simp only[lγ,cn,lδ]at hb;omega
 have hT24:hT (.n 18 [] vz ks)<=24:=by
  have:=VE (t:= .n 18 [] vz ks) (by omega);grind
 have hwr:ae .i64 (s.tt+(ns.length:Int))=s.tt+(ns.length:Int):=cz (by omega) (by omega);unfold sb at e;cases hblk:gD td (f8 (fu q f 0) (Ek q f) q) q {s with nd:=[],ne:=0}with
 |none=>simp_all
 |some r=>
  obtain⟨v,w⟩:=r;rw[hblk]at e;obtain⟨rfl,rfl⟩:=e;have hs0:Nx {s with nd:=[],ne:=0} (bQ (Tr.n 18 [] vz ks).w++R):=⟨hn.ok,hn.tk,hn.ps⟩;obtain⟨s3,s4,-,-,-,g1,g2,hlim,hf⟩:=En hks (fun k hk z u' v' t1 R' hz hnz he ee=>by
   have hz':z.ne=1:=hz;have hop:Dz 18=1:=rfl;have hk24:=GV (op:=18) (nm:=[]) (v:=vz) hk;exact(ģ _ k (Nat.le_refl _) (hks k hk).1 (qo hv.2 hk)).1 (hks k hk).2 q f z u' v' R' t1 hnz he (by omega) (by omega) ee) hs0 (by simp) (by simp) hblk
  have hlim:=acW hlim;replace g1:s3.nd=(Tr.n 18 [] vz ks).fl 0:=g1;rw[h2]at g1;have hlb:n_ s3.nd s3.tt=false:=by
   unfold n_;rw[g1,g2,hwr,tz (by omega),tz (by omega)];rfl
  rw[hlb,cond_false]at hlim;have hfin:=hf hlim;have hnd:w.nd=ns:=by
   rw[hfin.nd];simp_all
  have htt:w.tt=s.tt:=hfin.tt;refine⟨hnd,⟨hfin.nx.ok,hfin.nx.tk,hfin.nx.ps⟩,?_⟩;simp_all
variable {m:Me}
def ö {s u:PS}{m':Me}{R:List Tk}(hv:iy m=true)(hb:gz m.nodes=true)(hd:∀x∈m.nodes,eV x)(h0:0<=s.tt)(hl:s.tt+(m.nodes.length:Int)<=1500)(hn:Nx s (bQ (ll m)++R))(e:sc f q s=some (m',u)):m'=m/\Nx u R/\u.tt=s.tt+(m.nodes.length:Int):=by
 unfold iy at hv;simp only[lγ,cZ,lσ]at hv;obtain⟨v1,v2,v3,v4⟩:=hv;obtain⟨ks,hks,-⟩:=Pc hb;have hw:bQ (ll m)++R=kw [109,101,116,104,111,100]::bD m.name::sy [40]::(bQ (bU 0 (m.params.map mu))++sy [41]::(bQ (tj m.result)++(bQ (nz m.nodes).w++R))):=by
  show bQ ([[109,101,116,104,111,100],m.name]++(bp (m.params.map mu)++(tj m.result++(nz m.nodes).w)))++R=_;rw[bd,bd,bd,lε,lε,lε,oQ,<-NR (o:=[109,101,116,104,111,100]) (by simp)];rfl
 rw[hw]at hn;have hbr:∃r,bQ (nz m.nodes).w=sy [123]::r:=by
  rw[hks,<-C0 (o:=[123]) (by simp)];exact⟨_,rfl⟩
 obtain⟨rb,hbr⟩:=hbr;obtain⟨_,s1,e1,e⟩:=aa e;obtain⟨hn1,hm1⟩:=ez hn (by rfl) e1;obtain⟨n,s2,e2,e⟩:=aa e;obtain⟨rfl,hn2,hm2⟩:=mP v1 hn1 e2;obtain⟨_,s3,e3,e⟩:=aa e;obtain⟨hn3,hm3⟩:=ez hn2 (by rfl) e3;obtain⟨ps,s4,e4,e⟩:=aa e;have key:=zm (m.params.map mu) (fun i w l=>Sm s w 0/\l=m.params.take i)
  (fun i h w z l l' R' t1 hw hj ht ee=>by
   obtain⟨j1,j2⟩:=hj;have hi:i<m.params.length:=by grind
   rw[List.getElem_map]at hw;obtain⟨x,ee2,-,rfl⟩:=cf ee;have hx:=v4 _ (lπ hi);obtain⟨rfl,g1,g2⟩:=Wk hx.1 hx.2 hw ee2;exact⟨⟨j1.tr g2,by simp_all⟩,g1⟩)
  (fun i w l hj=>⟨hj.1.tr (Cw w),hj.2⟩)
  (fun i h w R' hw=>by
   have hi:i<m.params.length:=by grind
   rw[List.getElem_map]at hw;have hx:=v4 _ (lπ hi);have hw':Nx w (na m.params[i].name::((bQ (mu m.params[i])).tail++R')):=by
    rw[show na m.params[i].name=bD m.params[i].name from(jT hx.1).2.symm];exact hw
   refine⟨?_,?_⟩
   ·unfold Km;rw[(hw'.k (jJ hx.1)).1];rfl
   ·rw[hw'.isA];exact ma hx.1 _)
  (by grind) hn3 ⟨(hm1.tr hm2).tr hm3,rfl⟩ e4
 obtain⟨⟨j1,j2⟩,hn4⟩:=key;obtain⟨_,s5,e5,e⟩:=aa e;obtain⟨hn5,hm5⟩:=ez hn4 (by rfl) e5;obtain⟨k,s6,e6,e⟩:=aa e;have hres:k=m.result/\Nx s6 (bQ (nz m.nodes).w++R)/\Sm s5 s6 0:=by
  cases hr:eqI m.result 0 with
  |true=>
   have hrw:tj m.result=[]:=by unfold tj;grind
   rw[hrw]at hn5;have hn5':=hn5;rw[hbr]at hn5';replace e6:=aY (c:=fun s=>s.is [58]) (Fi hn5' (by rfl)) e6;obtain⟨rfl,rfl⟩:=au e6;rw[bO,lδ]at hr;exact⟨hr.symm,hn5,(Int.add_zero _).symm,rfl,rfl⟩
  |false=>
   have hrw:bQ (tj m.result)++(bQ (nz m.nodes).w++R)=sy [58]::bD (ct m.result)::(bQ (nz m.nodes).w++R):=by
    unfold tj;rw[hr,<-C0 (o:=[58]) (by simp)];rfl
   rw[hrw]at hn5;have hk:eI m.result=true:=by
    simp_all
   replace e6:=dF (c:=fun s=>s.is [58]) (Fi hn5 (by rfl)) e6;obtain⟨_,s7,e7,e6⟩:=aa e6;obtain⟨hn7,hm7⟩:=kx hn5 e7;obtain⟨rfl,hn8,hm8⟩:=zB (oO hk) hn7 e6;exact⟨rfl,hn8,hm7.tr hm8⟩
 obtain⟨rfl,hn6,hm6⟩:=hres;have ht6:s6.tt=s.tt:=by rw[hm6.tt,hm5.tt,j1.tt]
 obtain⟨ns,s9,e9,e⟩:=aa e;obtain⟨rfl,hn9,ht9⟩:=Y6 hb hd (by omega) (by omega) hn6 e9;obtain⟨rfl,rfl⟩:=au e;simp_all
def BF {α:Type}{w:LN}{most:Nat}{p:PM α}(xs:List α)(W:α->List LN)(J:Nat->PS->Prop)(t1:Tk)(R:List Tk)
  (hP:∀(i:Nat) (h:i<xs.length) (s u:PS) (x:α) (R':List Tk),Nx s (bQ (W xs[i])++R')->J i s->p s=some (x,u)->x=xs[i]/\J (i+1) u/\Nx u R')
  (hF:∀x∈xs,∃t0 r,bQ (W x)=t0::r/\eB t0 w=true) (ht:eB t1 w=false) (hm:xs.length<=most):
  ∀(n q i:Nat) (s u:PS) (l':List α),i+n=xs.length->J i s->Nx s (bQ (aF ((xs.drop i).map W))++t1::R)->hH w most p q (xs.take i) s=some (l',u)->l'=xs/\J xs.length u/\Nx u (t1::R)
 |n,0,i,s,u,l',hi,hj,hn,e=>by cases e
 |0,q+1,i,s,u,l',hi,hj,hn,e=>by
  rw[List.drop_of_length_le (by omega)]at hn;replace hn:Nx s (t1::R):=hn;unfold hH at e;obtain⟨rfl,rfl⟩:=au (aY (c:=fun s=>s.is w) ((hn.isA _).trans ht) e);obtain rfl:i=xs.length:=by omega
  rw[List.take_length];exact⟨rfl,hj,hn⟩
 |n+1,q+1,i,s,u,l',hi,hj,hn,e=>by
  have hi':i<xs.length:=by omega
  obtain⟨t0,r0,f1,f2⟩:=hF _ (lπ hi');have hd:aF ((xs.drop i).map W)=W xs[i]++aF ((xs.drop (i+1)).map W):=by rw[lι hi'];rfl
  rw[hd,bd,lε]at hn;have hc:s.is w=true:=by
   have hn':=hn;rw[f1]at hn';rw[Nx.isA hn'];exact f2
  unfold hH at e;replace e:=dF (c:=fun s=>s.is w) hc e;obtain⟨_,s1,e1,e⟩:=aa e;have hs1:s1=s:=by
   obtain⟨-,e1⟩:=bb e1;injection e1 with _ e1;have hb:Nat.beq (xs.take i).length most=false:=by
    cases hq:Nat.beq (xs.take i).length most with
    |false=>rfl
    |true=>
     have:=lη hq;rw[mδ]at this;omega
   rw[hb]at e1;exact e1.symm
  rw[hs1]at e;obtain⟨l1,s2,e2,e⟩:=aa e;obtain⟨x,e2x,-,rfl⟩:=cf e2;obtain⟨rfl,hj2,hn2⟩:=hP i hi' s s2 x _ hn hj e2x;rw[<-iz xs i hi']at e;exact BF xs W J t1 R hP hF ht hm n q (i+1) s2 u l' (by omega) hj2 hn2 e
structure W2 (a:Ac):Prop where
 fs:∀f∈a.fields,nh f.init
 ns:∀m∈a.methods,m.nodes.length<1000000000000/\∀x∈m.nodes,eV x
def EV {r:List Me}{t t':Int}(h:hR (m::r) t=some t')(hl:m.nodes.length<1000000000000)(h0:0<=t)(h1:t<=1500):t+(m.nodes.length:Int)<=1500/\iy m=true/\gz m.nodes=true/\hR r (t+(m.nodes.length:Int))=some t':=by
 simp only[hR]at h;rw[show ae .i64 (t+(m.nodes.length:Int))=t+(m.nodes.length:Int)from cz (by omega) (by omega)]at h;by_cases hg:1500<t+(m.nodes.length:Int)
 ·rw[fd hg]at h;cases h
 all_goals grind
def US {s u:PS}{a a':Ac}{t':Int}{R:List Tk}(hv:qn a=true)(hm:hR a.methods s.tt=some t')(hd:W2 a)(h0:0<=s.tt)(h1:s.tt<=1500)(hn:Nx s (bQ (m4 a)++R))(e:oW f q s=some (a',u)):a'=a/\Nx u R/\u.tt=t'/\0<=t'/\t'<=1500:=by
 unfold qn at hv;simp only[lγ,Bool.not_eq_true',cZ,lρ,mυ]at hv;obtain⟨v1,v2,v3,v4⟩:=hv;have hw:bQ (m4 a)++R=kw [97,99,116,111,114]::bD a.name::sy [123]::(bQ (aF (a.fields.map kO))++(bQ (aF (a.methods.map ll))++sy [125]::R)):=by
  show bQ ([[97,99,116,111,114],a.name,[123]]++(aF (a.fields.map kO)++(aF (a.methods.map ll)++[[125]])))++R=_;rw[bd,bd,bd,<-NR (o:=[97,99,116,111,114]) (by simp),<-C0 (o:=[123]) (by simp),<-C0 (o:=[125]) (by simp),lε,lε,lε];rfl
 rw[hw]at hn;obtain⟨_,s1,e1,e⟩:=aa e;obtain⟨hn1,hm1⟩:=ez hn (by rfl) e1;obtain⟨n,s2,e2,e⟩:=aa e;obtain⟨rfl,hn2,hm2⟩:=mP v1 hn1 e2;obtain⟨_,s3,e3,e⟩:=aa e;obtain⟨hn3,hm3⟩:=ez hn2 (by rfl) e3;obtain⟨fs,s4,e4,e⟩:=aa e;have tokn:∃t1 R',eB t1 [115,116,97,116,101]=false/\bQ (aF (a.methods.map ll))++sy [125]::R=t1::R':=by
  cases hM:a.methods with
  |nil=>exact⟨sy [125],R,by rfl,rfl⟩
  |cons x r=>exact⟨kw [109,101,116,104,111,100],_,by rfl,by rfl⟩
 obtain⟨t1,R',ht1,htok⟩:=tokn;rw[htok]at hn3;obtain⟨rfl,j4,hn4⟩:=BF a.fields kO (fun i w=>Sm s w 0) t1 R'
  (fun i h w z x R'' hw hj ee=>by
   have hf:dz a.fields[i]=true:=by simp_all
   obtain⟨rfl,g1,g2⟩:=Vu hf (hd.fs _ (lπ h)) hw ee;exact⟨rfl,hj.tr g2,g1⟩)
  (fun x hx=>⟨kw [115,116,97,116,101],_,by rfl,by rfl⟩) ht1 (by omega) a.fields.length q 0 s3 s4 fs (by omega) ((hm1.tr hm2).tr hm3) hn3 e4
 rw[<-htok]at hn4;obtain⟨ms,s5,e5,e⟩:=aa e;have ht4:s4.tt=s.tt:=j4.tt;obtain⟨rfl,⟨j5,j6,j7⟩,hn5⟩:=BF a.methods ll (fun i w=>hR (a.methods.drop i) w.tt=some t'/\0<=w.tt/\w.tt<=1500) (sy [125]) R
  (fun i h w z x R'' hw hj ee=>by
   obtain⟨g1,g2,g3⟩:=hj;rw[lι h]at g1;have hdm:=hd.ns _ (lπ h);obtain⟨k1,k2,k3,k4⟩:=EV g1 hdm.1 g2 g3;obtain⟨rfl,r1,r2⟩:=ö k2 k3 hdm.2 g2 k1 hw ee;grind)
  (fun x hx=>⟨kw [109,101,116,104,111,100],_,by rfl,by rfl⟩) (by rfl) (by omega) a.methods.length q 0 s4 s5 ms (by omega) ⟨by simp_all,by omega,by omega⟩ hn4 e5
 rw[List.drop_length]at j5;simp only[hR,lβ]at j5;obtain⟨_,s6,e6,e⟩:=aa e;obtain⟨hn6,hm6⟩:=ez hn5 (by rfl) e6;obtain⟨rfl,rfl⟩:=au e;exact⟨rfl,hn6,hm6.tt.trans j5,by omega,by omega⟩
def Nx.len {s:PS}{R:List Tk}(h:Nx s R):s.tk.length=s.ps+R.length:=by
 have e:=congrArg List.length h.tk;have:=h.ps;simp_all
def Fw {n f q:Nat}(p:List Ac)(hd:∀a∈p,W2 a)(h8:p.length<=8)(t':Int)(hf:7*n+20<=f)(hq:n+4<=q):∀(k m i:Nat) (s u:PS) (l':List Ac),i+k=p.length->Iv s->s.tk.length=n->pg (p.drop i) s.tt=some t'->0<=s.tt->s.tt<=1500->Nx s (bQ (aF ((p.drop i).map m4)))->gS n f q m (p.take i) s=some (l',u)->l'=p/\u.ok=true
 |k,0,i,s,u,l',hi,iv,hl,hv,h0,h1,hn,e=>by cases e
 |0,m+1,i,s,u,l',hi,iv,hl,hv,h0,h1,hn,e=>by
  rw[List.drop_of_length_le (by omega)]at hn;have hlen:=hn.len;replace hlen:s.tk.length=s.ps+0:=hlen;rcases bT e with⟨-,e⟩|⟨k,-⟩;case inr=>rw[hn.ok]at k;cases k
  obtain⟨rfl,rfl⟩:=au (aY (c:=fun s=>decide (s.ps<n)) (mρ (by omega)) e);obtain rfl:i=p.length:=by omega
  exact⟨List.take_length,hn.ok⟩
 |k+1,m+1,i,s,u,l',hi,iv,hl,hv,h0,h1,hn,e=>by
  have hi':i<p.length:=by omega
  have hdr:aF ((p.drop i).map m4)=m4 p[i]++aF ((p.drop (i+1)).map m4):=by rw[lι hi'];rfl
  rw[hdr,bd]at hn;have hlen:=hn.len;have hpos:0<(bQ (m4 p[i])++bQ (aF ((p.drop (i+1)).map m4))).length:=by
   show 0<(bD [97,99,116,111,114]::_).length;simp
  rw[lι hi']at hv;simp only[pg]at hv;cases ha:qn p[i]with
  |false=>simp_all
  |true=>
   rw[ha,cond_true]at hv;cases hm:hR p[i].methods s.tt with
   |none=>simp_all
   |some t1=>
    rw[hm]at hv;rcases bT e with⟨-,e⟩|⟨k,-⟩;case inr=>rw[hn.ok]at k;cases k
    replace e:=dF (c:=fun s=>decide (s.ps<n)) (qδ (by omega)) e;obtain⟨_,s1,e1,e⟩:=aa e;have hs1:s1=s:=by
     obtain⟨-,e1⟩:=bb e1;have hb:Nat.beq (p.take i).length 8=false:=by
      cases hq:Nat.beq (p.take i).length 8 with
      |false=>rfl
      |true=>
       simp_all;omega
     simp_all
    rw[hs1]at e;obtain⟨l1,s2,e2,e⟩:=aa e;obtain⟨x,e2x,-,rfl⟩:=cf e2;obtain⟨a,w,r1,r2,r3,-⟩:=B2 (f:=f) (q:=q) iv (by unfold PS.rem;omega) (by unfold PS.rem;omega);rw[e2x]at r1;injection r1 with r1;injection r1 with r0 r1;subst r0 r1;obtain⟨rfl,hn2,ht2,k1,k2⟩:=US ha hm (hd _ (lπ hi')) h0 h1 hn e2x;rw[<-iz p i hi']at e;rw[<-ht2]at hv;exact Fw p hd h8 t' hf hq k m (i+1) s2 u l' (by omega) r2 (by rw[r3.tk];exact hl) hv (by omega) (by omega) hn2 e
def iv0 (tk:List Tk)(en:Int)(hl:tk.length<=6000)(hb:Eb tk):Iv ⟨tk,0,en,0,0,0,0,[]⟩:=by
 refine⟨?_,hl,Nat.le_refl _,fun x hx=>by cases hx⟩
 unfold PS.sz;simp only[lγ,lδ,lσ];exact⟨Nat.zero_le _,by omega,fun t ht c hc=>hb t ht c hc⟩
variable {p:List Ac}
def MQ {tk:List Tk}{en:Int}{r:List Ac×Int×Int}(hv:hZ p=true)(hd:∀a∈p,W2 a)(ht:tk.map st=bQ (fE p))(hk:Eb tk)(hl:tk.length<=6000)(hf:7*tk.length+20<=f)(hq:tk.length+4<=q)(e:nf tk en f q=some r):r=(p,0,0):=by
 unfold hZ at hv;simp only[lγ,Bool.not_eq_true',cZ,lρ]at hv;obtain⟨h8,ht'⟩:=hv;obtain⟨t',ht'⟩:=Option.isSome_iff_exists.1 ht';unfold nf at e;cases hg:gS tk.length f q q [] ⟨tk,0,en,0,0,0,0,[]⟩with
 |none=>rw[hg]at e;cases e
 |some z=>
  obtain⟨l,s⟩:=z;rw[hg]at e;have hn0:Nx ⟨tk,0,en,0,0,0,0,[]⟩ (bQ (aF ((p.drop 0).map m4))):=⟨rfl,by show tk.map st=[]++_;rw[ht];rfl,Nat.zero_le _⟩
  obtain⟨rfl,hok⟩:=Fw p hd (by omega) t' hf hq p.length q 0 _ s l (by omega) (iv0 tk en hl hk) rfl ht' (by show(0:Int)<=0;omega) (by show(0:Int)<=1500;omega) hn0 hg;simp only[hok,Bool.not_true,cond_false]at e;injection e with e;exact e.symm
def GW (w:LN):Prop:=WdT w/\w.length<=260
def GWs (ws:List LN):Prop:=∀w∈ws,GW w
def GWs.app {a b:List LN}(h:GWs a)(g:GWs b):GWs (a++b):=fun w hw=>(mγ.1 hw).elim (h w) (g w)
def GWs.cons {a:LN}{b:List LN}(h:GW a)(g:GWs b):GWs (a::b):=fun w hw=>(mα.1 hw).elim (fun e=>e▸h) (g w)
def GWs.nil:GWs []:=fun w hw=>by cases hw
def fixW:List LN:=[[99,97,108,108],[108,101,116],[105,102],[119,104,105,108,101],[114,101,116,117,114,110],[102,97,105,108],[101,109,105,116],[114,101,109,105,110,100],[99,97,110,99,101,108],[101,108,115,101],[97,99,116,111,114],[115,116,97,116,101],[109,101,116,104,111,100],[115,101,108,102],[116,114,117,101],[102,97,108,115,101],[105,110,116,115],[115,116,114,105,110,103,115],[105,110,116],[98,111,111,108],[115,116,114,105,110,103],[59],[46],[58],[61],[123],[125],[44],[40],[41],[45],[33]]++binO
def ϰ:(fixW.all fun w=>wdB w&&Nat.ble w.length 260)=true:=by rfl
def cM {w:LN}(h:w∈fixW):GW w:=by
 have:=lσ.1 ϰ w h;rw[lγ,Nat.ble_eq]at this;exact⟨aeU this.1,this.2⟩
def iY {w:LN}(h:bw w=true):GW w:=by
 refine⟨(jT h).1,?_⟩;unfold bw at h;simp only[lγ,cn,lδ]at h;omega
def KU:∀(k u:Nat),1<=k->u<10 ^ k->(lO u).length<=k
 |0,u,h,_=>by omega
 |k+1,u,_,h=>by
  rw[A7];by_cases hu:u<10
  ·simp_all
  ·rw[if_neg hu,lα];have hk:1<=k:=by
    grind
   have:=KU k (u / 10) hk (by omega);simp_all
def Sv {n:Int}(h0:0<=n)(h1:n<=9223372036854775807):GW (ew n):=by
 refine⟨(CP h0 h1).1,?_⟩;obtain⟨u,rfl⟩:∃u:Nat,n=(u:Int):=⟨n.toNat,by omega⟩
 rw[Lx];have:=KU 19 u (by omega) (by omega);omega
def Ó {s:LN}(h:By s/\s.length<=64):GW (gv s):=by
 refine⟨(IA h.1 h.2).1,?_⟩;have:=Ce s;unfold gv;grind
def uJ {k:Int}(h:1<=k/\k<=5):GW (ct k):=by
 have hk':k=1\/k=2\/k=3\/k=4\/k=5:=by omega
 rcases hk' with rfl|rfl|rfl|rfl|rfl
 ·exact cM (w:=[105,110,116]) (by unfold fixW;simp)
 ·exact cM (w:=[98,111,111,108]) (by unfold fixW;simp)
 ·exact cM (w:=[115,116,114,105,110,103]) (by unfold fixW;simp)
 ·exact cM (w:=[105,110,116,115]) (by unfold fixW;simp)
 ·exact cM (w:=[115,116,114,105,110,103,115]) (by unfold fixW;simp)
def zt {i:Int}(h: -9223372036854775808<i/\i<=9223372036854775807):GWs (iA i)/\(iA i).length<=2:=by
 unfold iA;by_cases h0:i<0
 ·rw[fd h0,cond_true];exact⟨.cons (cM (w:=[45]) (by unfold fixW;simp)) (.cons (Sv (by omega) (by omega)) .nil),by simp⟩
 ·rw[tz h0,cond_false];exact⟨.cons (Sv (by omega) (by omega)) .nil,by simp⟩
def GG (ws:Ws):Prop:=∀w∈ws,GWs w
def GO:∀{ws:Ws},GG ws->GWs (aF ws)
 |[],_=> .nil
 |w::r,h=>(h w (by simp)).app (GO fun x hx=>h x (by simp[hx]))
def acs:GW [44]:=cM (w:=[44]) (by unfold fixW;simp)
def Sp:∀{ws:Ws},GG ws->GWs (bU 1 ws)
 |[],_=> .nil
 |w::r,h=>by
  rw[AZ];exact .cons acs ((h w (by simp)).app (Sp fun x hx=>h x (by simp[hx])))
variable {ws:Ws}
def lX (h:GG ws):GWs (bp ws):=by
 refine .cons (cM (w:=[40]) (by unfold fixW;simp)) (.app ?_ (.cons (cM (w:=[41]) (by unfold fixW;simp)) .nil));cases ws with
 |nil=>exact .nil
 |cons w r=>exact(h w (by simp)).app (Sp fun x hx=>h x (by simp[hx]))
def GP (h:GG ws)(n:Nat):GG (ws.take n):=fun w hw=>h w (qγ hw)
def Sq (h:GG ws)(n:Nat):GG (ws.drop n):=fun w hw=>h w (mι hw)
def qE (h:GG ws)(n:Nat):GWs (ws.getD n []):=by
 rw[lω];cases hg:ws[n]? with
 |none=>exact .nil
 |some w=>exact h w (mθ hg)
def ϲ (h:GG ws):GWs (rS ws):=by
 cases ws with
 |nil=>exact .nil
 |cons w r=>exact .cons (cM (w:=[101,108,115,101]) (by unfold fixW;simp)) (h w (by simp))
def KD:∀ws:Ws,(bU 1 ws).length=(aF ws).length+ws.length
 |[]=>rfl
 |w::r=>by
  rw[AZ];simp only[aF,List.length_cons,lα,KD r];omega
def ri (ws:Ws):(bp ws).length<=(aF ws).length+ws.length+2:=by
 unfold bp;simp;cases ws with
 |nil=>simp[bU]
 |cons w r=>
  rw[wz];simp only[lα,KD,aF,List.length_cons];omega
def Lo:∀a b:Ws,aF (a++b)=aF a++aF b
 |[],b=>rfl
 |w::r,b=>by simp only[List.cons_append,aF,Lo r b,lε]
def Sk (ws:Ws)(n:Nat):(aF ws).length=(aF (ws.take n)).length+(aF (ws.drop n)).length:=by
 rw[<-lα,<-Lo,List.take_append_drop]
def Bj (ws:Ws):(ws.getD 0 []).length<=(aF ws).length:=by
 cases ws with
 |nil=>simp
 |cons w r=>simp[aF]
def Î (ws:Ws):(ws.getD 1 []).length<=(aF (ws.drop 1)).length:=by
 cases ws with
 |nil=>simp
 |cons w r=>exact Bj r
def VC (ws:Ws):(ws.getD 0 []).length+(ws.getD 1 []).length<=(aF ws).length:=by
 cases ws with
 |nil=>simp
 |cons w r=>
  have:=Bj r;simp only[aF,lα];simp_all
def Z8 (ws:Ws):(rS ws).length<=(aF ws).length+1:=by
 cases ws with
 |nil=>simp[rS]
 |cons w r=>simp only[rS,aF,List.length_cons,lα];omega
def f1 {w:LN}(h:w∈fixW):GWs [w]:= .cons (cM h) .nil
def Ew {v:Va}(hv:kE v=true)(hc:nh v):GWs (kL v)/\(kL v).length<=100:=by
 unfold kL;cases h1:eqI v.k 1;case true=>obtain⟨a,b⟩:=zt hc.n;grind
 cases h2:eqI v.k 2;case true=>
  cases eqI v.n 1
  ·exact⟨f1 (w:=[102,97,108,115,101]) (by unfold fixW;simp),by simp⟩
  ·exact⟨f1 (w:=[116,114,117,101]) (by unfold fixW;simp),by simp⟩
 cases h3:eqI v.k 3;case true=>exact⟨.cons (Ó hc.s) .nil,by simp⟩
 cases h4:eqI v.k 4;case true=>
  refine⟨.cons (cM (w:=[105,110,116,115]) (by unfold fixW;simp)) (lX fun w hw=>?_),?_⟩
  ·obtain⟨i,hi,rfl⟩:=List.mem_map.1 hw;exact(zt (hc.I.2 i hi)).1
  ·have hl:∀I:LI,(∀i∈I,-9223372036854775808<i/\i<=9223372036854775807)->(aF (I.map iA)).length<=2*I.length:=fun I=>by
    induction I with
    |nil=>intro _;exact Nat.le_refl _
    |cons a r ih=>
     intro h;have:=(zt (h a (by simp))).2;have:=ih fun i hi=>h i (by simp[hi])
     simp only[List.map_cons,aF,lα,List.length_cons];omega
   have:=hl v.I hc.I.2;have:=ri (v.I.map iA);have:=hc.I.1;grind
 cases h5:eqI v.k 5;case true=>
  refine⟨.cons (cM (w:=[115,116,114,105,110,103,115]) (by unfold fixW;simp)) (lX fun w hw=>?_),?_⟩
  ·obtain⟨i,hi,rfl⟩:=List.mem_map.1 hw;exact .cons (Ó (hc.L.2 i hi)) .nil
  ·have hl:∀I:List LN,(aF (I.map fun s=>[gv s])).length=I.length:=fun I=>by
    induction I with
    |nil=>rfl
    |cons a r ih=>simp only[List.map_cons,aF,lα,List.length_cons,List.length_nil,ih];omega
   have:=ri (v.L.map fun s=>[gv s]);have:=hc.L.1;grind
 exact⟨.nil,by simp⟩
variable {nm:LN}
def P4 {op:Int}{v:Va}(hr:1<=op/\op<=18)(hc:dt ⟨op,nm,v,[]⟩=true)(hv:eV ⟨op,nm,v,[]⟩)(hw:GG ws):GWs (bW op nm v ws)/\(bW op nm v ws).length<=(aF ws).length+ws.length+10:=by
 have ho:op=1\/op=2\/op=3\/op=4\/op=5\/op=6\/op=7\/op=8\/op=9\/op=10\/op=11\/op=12\/op=13\/op=14\/op=15\/op=16\/op=17\/op=18:=by omega
 have m0:=Bj ws;have m1:=Î ws;have m01:=VC ws;have t1:=Sk ws 1;have t2:=Sk ws 2;have l0:=ri ws;have l1:=ri (ws.take 1);have l2:=ri (ws.drop 1);have e2:=Z8 (ws.drop 2);have t12:(aF (ws.take 1)).length+(ws.getD 1 []).length+(aF (ws.drop 2)).length<=(aF ws).length:=by
  cases ws with
  |nil=>exact Nat.le_refl _
  |cons w r=>
   cases r with
   |nil=>simp[aF]
   |cons x r=>simp[aF];omega
 have k1:(ws.take 1).length<=1:=by rw[mδ];omega
 have k2:(ws.drop 1).length<=ws.length:=by rw[lχ];omega
 have k3:(ws.take 1).length<=ws.length:=by rw[mδ];omega
 have k4:(ws.take 1).length+(ws.drop 1).length=ws.length:=by rw[mδ,lχ];omega
 rcases ho with rfl|rfl|rfl|rfl|rfl|rfl|rfl|rfl|rfl|rfl|rfl|rfl|rfl|rfl|rfl|rfl|rfl|rfl
 ·obtain⟨rfl,h⟩:=cv1 hc;have hn:=hv rfl;have hvv:kE v=true:=by
   replace hc:xL ⟨1,[],v,[]⟩=true:=hc;unfold xL at hc;exact(mI (mI hc).2).1
  have hco:nh v:=by
   rcases h with⟨n,rfl,h0⟩|⟨b,rfl⟩|⟨s,rfl,hs⟩
   ·exact⟨⟨by show _<n;omega,hn.1⟩,fun h=>(by cases h),⟨hn.2,Nat.zero_le _⟩,⟨Nat.zero_le _,fun i hi=>(by cases hi)⟩,⟨Nat.zero_le _,fun i hi=>by cases hi⟩⟩
   ·exact⟨⟨by cases b<;>decide,hn.1⟩,fun _=>(by cases b;exact .inl rfl;exact .inr rfl),⟨hn.2,Nat.zero_le _⟩,⟨Nat.zero_le _,fun i hi=>(by cases hi)⟩,⟨Nat.zero_le _,fun i hi=>by cases hi⟩⟩
   ·exact⟨⟨by show _<(0:Int);omega,hn.1⟩,fun h=>(by cases h),⟨hn.2,hs⟩,⟨Nat.zero_le _,fun i hi=>(by cases hi)⟩,⟨Nat.zero_le _,fun i hi=>by cases hi⟩⟩
  refine⟨(Ew hvv hco).1,?_⟩;show(kL v).length<=_;rcases h with⟨n,rfl,h0⟩|⟨b,rfl⟩|⟨s,rfl,hs⟩
  ·have:=(zt hco.n).2;show(iA n).length<=_;simp only[vI]at this;omega
  ·show 1<=_;omega
  ·show 1<=_;omega
 ·exact⟨.cons (iY (cv2 hc).1) .nil,by show 1<=_;omega⟩
 ·exact⟨f1 (w:=[115,101,108,102]) (by unfold fixW;simp),by show 1<=_;omega⟩
 ·obtain⟨h,-⟩:=cv4 hc;refine⟨(GWs.cons (cM (w:=[40]) (by unfold fixW;simp)) (.cons (cM (by unfold fixW;rcases h with rfl|rfl<;>simp)) .nil)).app ((qE hw 0).app (f1 (w:=[41]) (by unfold fixW;simp))),?_⟩;show([[40],nm]++(ws.getD 0 []++[[41]])).length<=_;simp only[lα,List.length_cons,List.length_nil];omega
 ·obtain⟨h,-⟩:=cv5 hc;refine⟨(f1 (w:=[40]) (by unfold fixW;simp)).app ((qE hw 0).app ((f1 (by unfold fixW;exact List.mem_append_right _ h)).app ((qE hw 1).app (f1 (w:=[41]) (by unfold fixW;simp))))),?_⟩;show([[40]]++(ws.getD 0 []++([nm]++(ws.getD 1 []++[[41]])))).length<=_;simp only[lα,List.length_cons,List.length_nil];omega
 ·obtain⟨h,-⟩:=cv6 hc;have hg:GW nm:=by
   rcases h with h|rfl|rfl
   ·exact iY h
   ·exact cM (by unfold fixW;simp)
   ·exact cM (by unfold fixW;simp)
  refine⟨(GWs.cons hg .nil).app (lX hw),?_⟩;show([nm]++bp ws).length<=_;simp only[lα,List.length_cons,List.length_nil];omega
 ·obtain⟨h,h',-⟩:=cv7 hc;refine⟨(GWs.cons (cM (w:=[99,97,108,108]) (by unfold fixW;simp)) (.cons (iY h) .nil)).app ((lX (GP hw 1)).app ((GWs.cons (cM (w:=[46]) (by unfold fixW;simp)) (.cons (iY h') .nil)).app (lX (Sq hw 1)))),?_⟩;show([[99,97,108,108],nm]++(bp (ws.take 1)++([[46],v.s]++bp (ws.drop 1)))).length<=_;simp only[lα,List.length_cons,List.length_nil];omega
 ·obtain⟨h,hk,-⟩:=cv8 hc;refine⟨(GWs.cons (cM (w:=[108,101,116]) (by unfold fixW;simp)) (.cons (iY h) (.cons (cM (w:=[58]) (by unfold fixW;simp)) (.cons (uJ hk) (f1 (w:=[61]) (by unfold fixW;simp)))))).app ((qE hw 0).app (f1 (w:=[59]) (by unfold fixW;simp))),?_⟩;show([[108,101,116],nm,[58],ct v.k,[61]]++(ws.getD 0 []++[[59]])).length<=_;simp only[lα,List.length_cons,List.length_nil];omega
 ·obtain⟨h,-⟩:=cv9 hc;refine⟨(GWs.cons (iY h) (f1 (w:=[61]) (by unfold fixW;simp))).app ((qE hw 0).app (f1 (w:=[59]) (by unfold fixW;simp))),?_⟩;show([nm,[61]]++(ws.getD 0 []++[[59]])).length<=_;simp only[lα,List.length_cons,List.length_nil];omega
 ·refine⟨(qE hw 0).app (f1 (w:=[59]) (by unfold fixW;simp)),?_⟩;show(ws.getD 0 []++[[59]]).length<=_;simp only[lα,List.length_cons,List.length_nil];omega
 ·refine⟨(f1 (w:=[105,102]) (by unfold fixW;simp)).app ((lX (GP hw 1)).app ((qE hw 1).app (ϲ (Sq hw 2)))),?_⟩;show([[105,102]]++(bp (ws.take 1)++(ws.getD 1 []++rS (ws.drop 2)))).length<=_;simp only[lα,List.length_cons,List.length_nil];omega
 ·refine⟨(f1 (w:=[119,104,105,108,101]) (by unfold fixW;simp)).app ((lX (GP hw 1)).app (qE hw 1)),?_⟩;show([[119,104,105,108,101]]++(bp (ws.take 1)++ws.getD 1 [])).length<=_;simp only[lα,List.length_cons,List.length_nil];omega
 ·refine⟨(f1 (w:=[114,101,116,117,114,110]) (by unfold fixW;simp)).app ((GO hw).app (f1 (w:=[59]) (by unfold fixW;simp))),?_⟩;show([[114,101,116,117,114,110]]++(aF ws++[[59]])).length<=_;simp only[lα,List.length_cons,List.length_nil];omega
 ·exact⟨(f1 (w:=[102,97,105,108]) (by unfold fixW;simp)).app (f1 (w:=[59]) (by unfold fixW;simp)),by show 2<=_;omega⟩
 ·refine⟨(f1 (w:=[101,109,105,116]) (by unfold fixW;simp)).app ((lX hw).app (f1 (w:=[59]) (by unfold fixW;simp))),?_⟩;show([[101,109,105,116]]++(bp ws++[[59]])).length<=_;simp only[lα,List.length_cons,List.length_nil];omega
 ·refine⟨(f1 (w:=[114,101,109,105,110,100]) (by unfold fixW;simp)).app ((lX hw).app (f1 (w:=[59]) (by unfold fixW;simp))),?_⟩;show([[114,101,109,105,110,100]]++(bp ws++[[59]])).length<=_;simp only[lα,List.length_cons,List.length_nil];omega
 ·refine⟨(f1 (w:=[99,97,110,99,101,108]) (by unfold fixW;simp)).app ((lX hw).app (f1 (w:=[59]) (by unfold fixW;simp))),?_⟩;show([[99,97,110,99,101,108]]++(bp ws++[[59]])).length<=_;simp only[lα,List.length_cons,List.length_nil];omega
 ·refine⟨(f1 (w:=[123]) (by unfold fixW;simp)).app ((GO hw).app (f1 (w:=[125]) (by unfold fixW;simp))),?_⟩;show([[123]]++(aF ws++[[125]])).length<=_;simp only[lα,List.length_cons,List.length_nil];omega
mutual
def CM:∀t:Tr,Wf t->iD eV t->GWs t.w/\t.w.length+1<=11*t.sz
 | .n op nm v ks,hw,hv=>by
  simp only[Wf]at hw;simp only[iD]at hv;obtain⟨h1,h2⟩:=yC ks hw.2.2 hv.2;have hr:1<=op/\op<=18:=by rcases qI hw.1 with rfl|rfl|rfl|rfl|rfl|rfl|rfl|rfl|rfl|rfl|rfl|rfl|rfl|rfl|rfl|rfl|rfl|rfl<;>decide
  obtain⟨g1,g2⟩:=P4 (ws:=wL ks) hr hw.2.1 hv.1 h1;rw[CO]at g2;simp only[Tr.w,Tr.sz];exact⟨g1,by omega⟩
def yC:∀l:List Tr,Ec l->oa eV l->GG (wL l)/\(aF (wL l)).length+l.length<=11*eR l
 |[],_,_=>⟨fun w hw=>(by cases hw),by simp[wL,aF,eR]⟩
 |t::r,hw,hv=>by
  simp only[Ec]at hw;simp only[oa]at hv;obtain⟨h1,h2⟩:=CM t hw.1 hv.1;obtain⟨g1,g2⟩:=yC r hw.2 hv.2;refine⟨fun w hw=>?_,?_⟩
  ·simp only[wL]at hw;exact(mα.1 hw).elim (fun e=>e▸h1) (g1 w)
  ·simp only[wL,aF,eR,lα,List.length_cons];omega
end
structure pT (a:Ac):Prop where
 fs:∀f∈a.fields,rK f.init
 ns:∀m∈a.methods,m.nodes.length<1000000000000/\∀x∈m.nodes,rK x.v
variable {x:No}
def acT (h:rK x.v):eV x:=fun _=>⟨h.n.2,h.s⟩
def aco {f:Fe}(hd:rK f.init)(hv:dz f=true):nh f.init:=by
 unfold dz at hv;simp only[lγ,Bool.not_eq_true',bO,lδ,lρ,mυ]at hv;obtain⟨-,-,-,g4,g5,g6⟩:=hv;exact Zt hd g4 g5 fun i hi he=>g6 i hi he.symm
variable {a:Ac}
def Ga (hd:pT a)(hv:qn a=true):W2 a:=by
 unfold qn at hv;refine⟨fun f hf=>aco (hd.fs f hf) ?_,fun m hm=>⟨(hd.ns m hm).1,fun x hx=>acT ((hd.ns m hm).2 x hx)⟩⟩
 simp_all
def SS:∀(l:List Me) (t t':Int),hR l t=some t'->(∀m∈l,m.nodes.length<1000000000000)->0<=t->t<=1500->0<=t'/\t'<=1500/\∀m∈l,iy m=true/\gz m.nodes=true/\m.nodes.length<=1500
 |[],t,t',h,_,h0,h1=>by
  simp only[hR,lβ]at h;subst h;exact⟨h0,h1,fun m hm=>by cases hm⟩
 |m::r,t,t',h,hb,h0,h1=>by
  obtain⟨g1,g2,g3,g4⟩:=EV h (hb m (by simp)) h0 h1;obtain⟨r1,r2,r3⟩:=SS r _ t' g4 (fun x hx=>hb x (by simp[hx])) (by omega) g1;refine⟨r1,r2,fun x hx=>?_⟩
  rcases mα.1 hx with rfl|hx
  ·exact⟨g2,g3,by omega⟩
  ·exact r3 x hx
def TJ:∀(l:List Ac) (t t':Int),pg l t=some t'->(∀a∈l,∀m∈a.methods,m.nodes.length<1000000000000)->0<=t->t<=1500->∀a∈l,qn a=true/\∀m∈a.methods,iy m=true/\gz m.nodes=true/\m.nodes.length<=1500
 |[],t,t',h,_,h0,h1=>fun a ha=>by cases ha
 |a::r,t,t',h,hb,h0,h1=>by
  simp only[pg]at h;cases ha:qn a with
  |false=>simp_all
  |true=>
   rw[ha,cond_true]at h;cases hm:hR a.methods t with
   |none=>simp_all
   |some t1=>
    rw[hm]at h;obtain⟨r1,r2,r3⟩:=SS _ _ _ hm (hb a (by simp)) h0 h1;have:=TJ r t1 t' h (fun x hx=>hb x (by simp[hx])) r1 r2;grind
def zI (hv:hZ p=true)(hb:∀a∈p,pT a):p.length<=8/\∀a∈p,qn a=true/\∀m∈a.methods,iy m=true/\gz m.nodes=true/\m.nodes.length<=1500:=by
 unfold hZ at hv;simp only[lγ,Bool.not_eq_true',cZ,lρ]at hv;obtain⟨t',ht'⟩:=Option.isSome_iff_exists.1 hv.2;exact⟨by omega,TJ p 0 t' ht' (fun a ha m hm=>((hb a ha).ns m hm).1) (by omega) (by omega)⟩
def abF (hd:pT a)(hv:qn a=true)(hm:∀m∈a.methods,iy m=true/\gz m.nodes=true/\m.nodes.length<=1500):Q1 a:=by
 have hD:=Ga hd hv;unfold qn at hv;simp only[lγ,Bool.not_eq_true',cZ,lρ,mυ]at hv;obtain⟨v1,v2,v3,v4⟩:=hv;refine⟨by omega,fun f hf=>⟨hD.fs f hf,?_⟩,by omega,fun m hmm=>?_⟩
 ·have h:=v4 f hf;simp at h;unfold dz at h;simp at h;exact oO h.2.1
 ·obtain⟨m1,m2,m3⟩:=hm m hmm;unfold iy at m1;simp only[lγ,Bool.not_eq_true',cZ,lρ,lσ]at m1;obtain⟨w1,w2,w3,w4⟩:=m1;obtain⟨t,t1,t2,t3,t4,-⟩:=wv m2;refine⟨by omega,fun q hq=>oO (w4 q hq).2,?_,by omega,⟨t,t2,t3,t4⟩,fun x hx=>adq ((hd.ns m hmm).2 x hx) ?_⟩
  ·cases hr:eqI m.result 0 with
   |true=>rw[bO,lδ]at hr;omega
   |false=>
    exact .inr (oO (by simp_all))
  ·unfold gz at m2;simp_all
def lT {α:Type}(W:α->List LN)(c:Nat):∀(l:List α),(∀x∈l,GWs (W x)/\(W x).length<=c)->GWs (aF (l.map W))/\(aF (l.map W)).length<=c*l.length
 |[],_=>⟨.nil,Nat.zero_le _⟩
 |a::r,h=>by
  obtain⟨h1,h2⟩:=h a (by simp);obtain⟨g1,g2⟩:=lT W c r fun x hx=>h x (by simp[hx])
  refine⟨h1.app g1,?_⟩;simp only[List.map_cons,aF,lα,List.length_cons,Nat.mul_succ];omega
def Vt {f:Fe}(hc:nh f.init)(hv:dz f=true):GWs (kO f)/\(kO f).length<=110:=by
 unfold dz at hv;simp at hv;obtain⟨g1,g2,g3,g4,-⟩:=hv;obtain⟨h1,h2⟩:=Ew g4 hc;refine⟨(GWs.cons (cM (w:=[115,116,97,116,101]) (by unfold fixW;simp)) (.cons (iY g1) (.cons (cM (w:=[58]) (by unfold fixW;simp)) (.cons (uJ (oO g2)) (f1 (w:=[61]) (by unfold fixW;simp)))))).app (h1.app (f1 (w:=[59]) (by unfold fixW;simp))),?_⟩;show([[115,116,97,116,101],f.name,[58],ct f.kind,[61]]++(kL f.init++[[59]])).length<=110;simp;omega
def VX (hv:iy m=true)(hb:gz m.nodes=true)(hl:m.nodes.length<=1500)(hd:∀x∈m.nodes,eV x):GWs (ll m)/\(ll m).length<=16600:=by
 unfold iy at hv;simp only[lγ,cZ,lσ]at hv;obtain⟨v1,v2,v3,v4⟩:=hv;obtain⟨ks,-,-,h3,h4,h5⟩:=Pc hb;have hv:=Gb (P:=eV) (fun op nm v a b h=>h) hd _ 0 h5;obtain⟨t1,t2⟩:=CM _ h4 hv;have hp:=lT mu 3 m.params fun q hq=>⟨.cons (iY (v4 q hq).1) (.cons (cM (w:=[58]) (by unfold fixW;simp)) (.cons (uJ (oO (v4 q hq).2)) .nil)),by show 3<=3;omega⟩
 have hpl:=ri (m.params.map mu);have hr:GWs (tj m.result)/\(tj m.result).length<=2:=by
  unfold tj;cases hr:eqI m.result 0 with
  |true=>exact⟨.nil,by simp⟩
  |false=>
   exact⟨.cons (cM (w:=[58]) (by unfold fixW;simp)) (.cons (uJ (oO (by simp_all))) .nil),by simp⟩
 refine⟨(GWs.cons (cM (w:=[109,101,116,104,111,100]) (by unfold fixW;simp)) (.cons (iY v1) .nil)).app ((lX fun w hw=>?_).app (hr.1.app t1)),?_⟩
 ·obtain⟨q,hq,rfl⟩:=List.mem_map.1 hw;exact .cons (iY (v4 q hq).1) (.cons (cM (w:=[58]) (by unfold fixW;simp)) (.cons (uJ (oO (v4 q hq).2)) .nil))
 ·show([[109,101,116,104,111,100],m.name]++(bp (m.params.map mu)++(tj m.result++(nz m.nodes).w))).length<=_;grind
def B9 (hv:hZ p=true)(hb:∀a∈p,pT a):GWs (fE p)/\(fE p).length<=3000000:=by
 obtain⟨h8,hall⟩:=zI hv hb;have key:=lT m4 300000 p fun a ha=>?_
 ·refine⟨key.1,?_⟩;show(aF (p.map m4)).length<=_;omega
 ·obtain⟨h1,h2⟩:=hall a ha;have hD:=Ga (hb a ha) h1;unfold qn at h1;simp only[lγ,cZ,mυ]at h1;obtain⟨v1,v2,v3,v4⟩:=h1;have hf:=lT kO 110 a.fields fun f hf=>Vt (hD.fs f hf) (by simp_all)
  have hm:=lT ll 16600 a.methods fun m hm=>VX (h2 m hm).1 (h2 m hm).2.1 (h2 m hm).2.2 (hD.ns m hm).2
  refine⟨(GWs.cons (cM (w:=[97,99,116,111,114]) (by unfold fixW;simp)) (.cons (iY v1) (f1 (w:=[123]) (by unfold fixW;simp)))).app (hf.1.app (hm.1.app (f1 (w:=[125]) (by unfold fixW;simp)))),?_⟩;show([[97,99,116,111,114],a.name,[123]]++(aF (a.fields.map kO)++(aF (a.methods.map ll)++[[125]]))).length<=_;grind
def ķ:∀{ws:List LN},GWs ws->(av ws).length<=261*ws.length
 |[],_=>Nat.le_refl _
 |w::r,h=>by
  have h1:=(h w (by simp)).2;have h2:=ķ (ws:=r) fun x hx=>h x (by simp[hx])
  simp only[av,lα,List.length_cons];omega
def TH:∀{ws:List LN},GWs ws->By (av ws)
 |[],_=>fun c hc=>by cases hc
 |w::r,h=>by
  have h1:=(h w (by simp)).1.by_;have h2:=TH (ws:=r) fun x hx=>h x (by simp[hx])
  intro c hc;simp only[av,mγ,mα]at hc;rcases hc with hc|rfl|hc
  ·exact h1 c hc
  ·rcases Tl w with h|h<;>rw[h]<;>decide
  ·exact h2 c hc
def Fa (hv:hZ p=true)(hb:∀a∈p,pT a):By (av (fE p))/\(av (fE p)).length<cm:=by
 obtain⟨h1,h2⟩:=B9 hv hb;have:=ķ h1;exact⟨TH h1,by unfold cm;omega⟩
def Im (hv:hZ p=true)(hb:∀a∈p,pT a)(hl:(av (fE p)).length<=6000):jQ (av (fE p)) 42020 6004=some (p,0,0):=by
 obtain⟨h1,-⟩:=B9 hv hb;obtain⟨T,e1,e2⟩:=æ (fE p) (fun w hw=>(h1 w hw).1) ((av (fE p)).length+1) 0 [] (by omega);have ht:jf (av (fE p))=(T,0,0):=by
  unfold jf;rw[tz (by omega),cond_false];unfold tkU at e1;rw[Nat.zero_add]at e1;exact e1
 obtain⟨r,hr⟩:=Cy (av (fE p)) (TH h1) hl (f:=42020) (q:=6004) (by omega) (by omega);obtain⟨k1,k2⟩:=TG (av (fE p)) (TH h1);rw[ht]at k1 k2;simp only at k1 k2;rw[hr];unfold jQ at hr;rw[ht]at hr;replace hr:nf T ((av (fE p)).length:Int) 42020 6004=some r:=hr;have hD:∀a∈p,W2 a:=fun a ha=>Ga (hb a ha) ((zI hv hb).2 a ha).1
 rw[MQ hv hD e2 k1 (by omega) (by omega) (by omega) hr]
def adj (h:SzA a):SzB 1501 a:=⟨h.fl,h.me,fun f hf=>⟨(h.ff f hf).iv,(h.ff f hf).lv⟩,fun m hm=>⟨(h.mm m hm).ps,(h.mm m hm).ns,fun x hx=>⟨((h.mm m hm).nx x hx).ks,((h.mm m hm).nx x hx).iv,((h.mm m hm).nx x hx).lv⟩⟩⟩
def adk (hl:p.length<1501)(h:∀a∈p,SzA a):SzP 1501 p:=⟨by omega,fun a ha=>⟨qα (h a ha).fl,qα (h a ha).me,fun f hf=>⟨qα ((h a ha).ff f hf).iv,qα ((h a ha).ff f hf).lv⟩,fun m hm=>⟨qα ((h a ha).mm m hm).ps,qα ((h a ha).mm m hm).ns,fun x hx=>⟨⟨qα (((h a ha).mm m hm).nx x hx).iv,qα (((h a ha).mm m hm).nx x hx).lv⟩,qα (((h a ha).mm m hm).nx x hx).ks⟩⟩⟩⟩
def TU {m:Nat}(p:List Ac)(hz:∀a∈p,SzB 1501 a)(hv:hZ p=true)(hd:∀a∈p,pT a)(hm:30000<=m):Ω m 10 [.p (.agg [.slice 3 (p.map Ac.e)])] []=some (pS (av (fE p)),[]):=by
 obtain⟨m,rfl⟩:∃k,m=k+1512:=⟨m - 1512,by omega⟩
 have h1:=IN (n:=m) p hz (by omega);rw[hv]at h1;obtain⟨h8,hall⟩:=zI hv hd;obtain⟨t1,t2⟩:=Fa hv hd;exact W5 p h1 (fun a ha=>abF (hd a ha) (hall a ha).1 (hall a ha).2) (by omega) (by omega) t1 t2
structure TkD (en:Int)(t:Tk):Prop where
 n:t.n<=9223372036854775807
 s:By t.s
 a:0<=t.a/\t.a<=en
structure Es (E:Int)(s:PS):Prop where
 tk:∀t∈s.tk,TkD E t
 en:s.en=E
 e0:0<=E
 er:s.ok=false->0<=s.aT/\s.aT<=E
class Ep {α:Type} (p:PM α):Prop where
 h:∀{E:Int} {s t:PS} {a:α},p s=some (a,t)->Es E s->Es E t/\(t.ok=true->s.ok=true)
class Kp {α:Type} (p:PM α):Prop where
 h:∀{s t:PS} {a:α},p s=some (a,t)->t.nd=s.nd/\t.tt=s.tt
instance {α β:Type}{p:PM α}{f:α->PM β}[h1:Ep p][h2:∀a,Ep (f a)]:Ep (p.bnd f):=⟨fun e h=>by
 obtain⟨a,u,e1,e2⟩:=aa e;obtain⟨g1,g2⟩:=h1.h e1 h;obtain⟨k1,k2⟩:=(h2 a).h e2 g1;simp_all⟩
instance {α β:Type}{p:PM α}{f:α->PM β}[h1:Kp p][h2:∀a,Kp (f a)]:Kp (p.bnd f):=⟨fun e=>by
 obtain⟨a,u,e1,e2⟩:=aa e;have g:=h1.h e1;have k:=(h2 a).h e2;simp_all⟩
instance {α:Type}{a:α}:Ep (PM.ret a):=⟨fun e h=>by
 obtain⟨-,rfl⟩:=au e;simp_all⟩
instance {α:Type}{a:α}:Kp (PM.ret a):=⟨fun e=>by
 obtain⟨-,rfl⟩:=au e;simp⟩
variable {α:Type}
theorem lj:Ep (fun _=>(none:Option (α×PS))):=⟨fun e=>by cases e⟩
theorem SJ:Kp (fun _=>(none:Option (α×PS))):=⟨fun e=>by cases e⟩
instance {α:Type}{c:PS->Bool}{p q:PM α}[h1:Ep p][h2:Ep q]:Ep (cnd c p q):=⟨fun e h=>by
 obtain⟨-,⟨-,e⟩|⟨-,e⟩⟩:=aD e
 ·exact h1.h e h
 ·exact h2.h e h⟩
instance {α:Type}{c:PS->Bool}{p q:PM α}[h1:Kp p][h2:Kp q]:Kp (cnd c p q):=⟨fun e=>by
 obtain⟨-,⟨-,e⟩|⟨-,e⟩⟩:=aD e
 ·exact h1.h e
 ·exact h2.h e⟩
instance {α:Type}{p q:PM α}[h1:Ep p][h2:Ep q]:Ep (cok p q):=⟨fun e h=>by
 rcases bT e with⟨-,e⟩|⟨-,e⟩
 ·exact h1.h e h
 ·exact h2.h e h⟩
instance {α:Type}{p q:PM α}[h1:Kp p][h2:Kp q]:Kp (cok p q):=⟨fun e=>by
 rcases bT e with⟨-,e⟩|⟨-,e⟩
 ·exact h1.h e
 ·exact h2.h e⟩
instance {α:Type}{l:List LN}{p:PM α}{f:LN->PM α}[h1:Ep p][h2:∀o,Ep (f o)]:Ep (fnO l p f):=⟨fun e h=>by
 obtain⟨-,⟨-,e⟩|⟨o,-,e⟩⟩:=ei e
 ·exact h1.h e h
 ·exact(h2 o).h e h⟩
instance {α:Type}{p:PM α}{l:List α}[h1:Ep p]:Ep (snoc p l):=⟨fun e h=>by
 obtain⟨x,e,-,-⟩:=cf e;exact h1.h e h⟩
instance {α:Type}{p:PM α}{l:List α}[h1:Kp p]:Kp (snoc p l):=⟨fun e=>by
 obtain⟨x,e,-,-⟩:=cf e;exact h1.h e⟩
structure Sa (s t:PS):Prop where
 es:∀{E:Int},Es E s->Es E t
 ok:t.ok=true->s.ok=true
 nd:t.nd=s.nd
 tt:t.tt=s.tt
def Sa.refl (s:PS):Sa s s:=⟨id,id,rfl,rfl⟩
def Sa.trans {a b c:PS}(h:Sa a b)(g:Sa b c):Sa a c:=⟨fun e=>g.es (h.es e),fun k=>h.ok (g.ok k),g.nd.trans h.nd,g.tt.trans h.tt⟩
def Sa.ne {s t:PS}(h:Sa s t)(k:Int):Sa s {t with ne:=k}:=⟨fun e=>⟨(h.es e).tk,(h.es e).en,(h.es e).e0,(h.es e).er⟩,h.ok,h.nd,h.tt⟩
def Cq (s:PS):Sa s s.up:=⟨fun e=>⟨e.tk,e.en,e.e0,e.er⟩,id,rfl,rfl⟩
def pc (s:PS)(e:Int):Sa s (s.fail e):=by
 obtain⟨h1,h2,h3,h4,h5,h6⟩:=mL s e;refine⟨fun {E} h=>⟨by rw[h1];exact h.tk,h2.trans h.en,h.e0,fun _=>?_⟩,fun k=>?_,h4,h6⟩
 ·unfold PS.fail;cases hk:s.ok with
  |false=>exact h.er hk
  |true=>
   cases ht:s.tk[s.ps]? with
   |none=>exact⟨h.en▸h.e0,h.en▸Int.le_refl _⟩
   |some t=>exact(h.tk t (mθ ht)).a
 ·cases hk:s.ok with
  |true=>rfl
  |false=>
   unfold PS.fail at k;simp_all
def Cp (s:PS)(x:LN):Sa s (s.exp x):=by
 unfold PS.exp;cases s.is x
 ·exact pc s 13
 ·exact Cq s
def Ti (s:PS)(x:LN):Sa s (s.open x):=by
 unfold PS.open PS.opn1;refine Sa.ne ?_ _;cases(s.is x&&eqI s.ne 24)
 ·exact Cp s x
 ·exact(pc s 5).trans (Cp _ x)
def Nt (s:PS)(x:LN):Sa s (s.close x):=(Cp s x).ne _
def Tj (s:PS)(k:Int):Sa s (s.take k).2:=by
 unfold PS.take;cases eqI (s.peek 0).k k
 ·exact pc s 13
 ·exact Cq s
def If:∀(l:List LN) (i:Int) (s:PS),Sa s (dn l i s).2
 |[],i,s=>pc s 13
 |x::r,i,s=>by
  unfold dn;cases s.is x
  ·exact If r (i+1) s
  ·exact Cq s
variable {g:PS->α×PS}
theorem pq (h:∀s,Sa s (g s).2):Ep (lf g):=⟨fun {E s t a} e hs=>by
 obtain⟨-,e⟩:=bb e;have:=h s;rw[e]at this;exact⟨this.es hs,this.ok⟩⟩
theorem rW (h:∀s,Sa s (g s).2):Kp (lf g):=⟨fun {s t a} e=>by
 obtain⟨-,e⟩:=bb e;have:=h s;rw[e]at this;exact⟨this.nd,this.tt⟩⟩
instance:Ep pUp:=pq Cq
instance:Kp pUp:=rW Cq
instance {e:Int}:Ep (B5 e):=pq fun s=>pc s e
instance {x:LN}:Ep (gE x):=pq fun s=>Cp s x
instance {x:LN}:Kp (gE x):=rW fun s=>Cp s x
instance {x:LN}:Ep (nL x):=pq fun s=>Ti s x
instance {x:LN}:Kp (nL x):=rW fun s=>Ti s x
instance {x:LN}:Ep (jI x):=pq fun s=>Nt s x
instance {x:LN}:Kp (jI x):=rW fun s=>Nt s x
instance {k:Int}:Ep (jk k):=pq fun s=>Tj s k
instance {k:Int}:Kp (jk k):=rW fun s=>Tj s k
instance:Ep pName:=inferInstanceAs (Ep (PM.bnd _ _))
instance:Kp pName:=inferInstanceAs (Kp (PM.bnd _ _))
instance:Ep pPeek:=pq fun s=>Sa.refl s
instance:Kp pPeek:=rW fun s=>Sa.refl s
instance:Ep pKind:=pq fun s=>If kindL 1 s
instance:Kp pKind:=rW fun s=>If kindL 1 s
instance:Ep pInt:=inferInstanceAs (Ep (cnd _ _ _))
instance:Kp pInt:=inferInstanceAs (Kp (cnd _ _ _))
instance:Ep pDec:=⟨fun {E s t a} e h=>by
 obtain rfl:=Gu e;exact⟨((Sa.refl s).ne _).es h,id⟩⟩
instance:Kp pDec:=⟨fun e=>by
 obtain rfl:=Gu e;simp⟩
def abH {s t:PS}{i:Int}(e:eb x s=some (i,t))(k:t.ok=true):i=(s.nd.length:Int)/\t={s with nd:=s.nd++[x]}:=by
 obtain⟨-,-,e⟩:=q7 e;unfold PS.add at e;grind
instance {x:No}:Ep (eb x):=⟨fun {E s t a} e h=>by
 obtain⟨-,-,e⟩:=q7 e;unfold PS.add at e;cases hk:s.ok with
 |false=>
  simp_all
 |true=>
  rw[hk]at e;injection e with _ e;subst e;exact⟨⟨h.tk,h.en,h.e0,h.er⟩,fun _=>rfl⟩⟩
def xj {c d:PS->Bool}{e f:Int}(s:PS):Sa s (bif c s then s.fail e else bif d s then s.fail f else s):=by
 cases c s
 ·cases d s
  ·exact Sa.refl s
  ·exact pc s f
 ·exact pc s e
theorem Z9 {α:Type}{begins:PS->Bool}{elem:α->PM α}{most:Nat}(h:∀a,Ep (elem a)):∀(q n:Nat) (a:α),Ep (sN begins elem most q n a)
 |0,_,_=>lj
 |q+1,n,a=>by
  haveI:=fun a=>Z9 (begins:=begins) (most:=most) h q (n+1) a
  haveI:Ep (lf fun s=>((),bif !begins s then s.fail 13 else bif Nat.beq n most then s.fail 5 else s)):=pq fun s=>xj (c:=fun s=>!begins s) (d:=fun _=>Nat.beq n most) s
  unfold sN;infer_instance
theorem aaU {α:Type}{begins:PS->Bool}{elem:α->PM α}{most:Nat}(h:∀a,Kp (elem a)):∀(q n:Nat) (a:α),Kp (sN begins elem most q n a)
 |0,_,_=>SJ
 |q+1,n,a=>by
  haveI:=fun a=>aaU (begins:=begins) (most:=most) h q (n+1) a
  haveI:Kp (lf fun s=>((),bif !begins s then s.fail 13 else bif Nat.beq n most then s.fail 5 else s)):=rW fun s=>xj (c:=fun s=>!begins s) (d:=fun _=>Nat.beq n most) s
  unfold sN;infer_instance
instance {α:Type}{begins:PS->Bool}{elem:α->PM α}{most q:Nat}{a:α}[h:∀a,Ep (elem a)]:Ep (EC begins elem most q a):=by
 haveI:=Z9 (begins:=begins) (most:=most) h q 0 a
 unfold EC;infer_instance
instance {α:Type}{begins:PS->Bool}{elem:α->PM α}{most q:Nat}{a:α}[h:∀a,Kp (elem a)]:Kp (EC begins elem most q a):=by
 haveI:=aaU (begins:=begins) (most:=most) h q 0 a
 unfold EC;infer_instance
instance {ex:PM Int}{q:Nat}[Ep ex]:Ep (sa ex q):=by unfold sa;infer_instance
theorem Sb {ex:PM Int}[Ep ex]{ops:List LN}:∀(q:Nat) (x:Int),Ep (gY ex ops q x)
 |0,_=>lj
 |q+1,x=>by
  haveI:=fun z=>Sb (ex:=ex) (ops:=ops) q z
  unfold gY;infer_instance
instance {ex:PM Int}{ops:List LN}{q:Nat}{x:Int}[Ep ex]:Ep (gY ex ops q x):=Sb q x
instance {f p:PM Int}[Ep f][Ep p]:Ep (y3 f p):=by unfold y3 pUn;infer_instance
instance {c:PM Va}[Ep c]:Ep (jc c):=by
 haveI:∀(g:PS->Va),Ep (lf fun s=>(g s,s.up)):=fun g=>pq Cq
 unfold jc;infer_instance
instance {c:PM Va}[Kp c]:Kp (jc c):=by
 haveI:∀(g:PS->Va),Kp (lf fun s=>(g s,s.up)):=fun g=>rW Cq
 unfold jc;infer_instance
instance {ex:PM Int}{q:Nat}[Ep ex]:Ep (fD ex q):=by
 haveI:Ep (fun _=>(none:Option (Va×PS))):=lj
 unfold fD;infer_instance
instance {ex:PM Int}{ops:List LN}{q:Nat}[Ep ex]:Ep (f7 ex ops q):=by unfold f7;infer_instance
instance {ex:PM Int}[Ep ex]:Ep (DB ex):=by unfold DB;infer_instance
theorem aaN (q:Nat):∀(f lvl:Nat),Ep (fu q f lvl)
 |0,lvl=>lj
 |f+1,lvl=>by
  haveI:=fun l=>aaN q f l
  match lvl with
  |0=>exact inferInstanceAs (Ep (f7 (fu q f 1) [[124,124]] q))
  |1=>exact inferInstanceAs (Ep (f7 (fu q f 2) [[38,38]] q))
  |2=>exact inferInstanceAs (Ep (DB (fu q f 3)))
  |3=>exact inferInstanceAs (Ep (f7 (fu q f 4) [[43],[45]] q))
  |4=>exact inferInstanceAs (Ep (f7 (fu q f 5) [[42],[47],[37]] q))
  |5=>exact inferInstanceAs (Ep (y3 (fu q f 5) (fu q f 6)))
  |n+6=>exact inferInstanceAs (Ep (fD (fu q f 0) q))
instance {q f l:Nat}:Ep (fu q f l):=aaN q f l
instance {ex:PM Int}{q:Nat}[Ep ex]:Ep (pD ex q):=by unfold pD;infer_instance
instance {ex:PM Int}{q:Nat}[Ep ex]:Ep (kU ex q):=by unfold kU;infer_instance
theorem Gy {ex:PM Int}[Ep ex]:∀(n:Nat) (l:LI),Ep (jj ex n l)
 |0,l=>inferInstanceAs (Ep (PM.ret l))
 |n+1,l=>by
  haveI:=fun l=>Gy (ex:=ex) n l
  unfold jj;cases l.isEmpty<;>simp<;>infer_instance
instance {ex:PM Int}{n:Nat}[Ep ex]:Ep (tf ex n):=by
 haveI:=Gy (ex:=ex) n []
 unfold tf;infer_instance
instance {x:No}:Ep (gL x):=by unfold gL;infer_instance
instance {ex bl:PM Int}{op:Int}[Ep ex][Ep bl]:Ep (pE op ex bl):=by
 unfold pE;cases eqI op 11<;>simp<;>infer_instance
instance {ex bl:PM Int}{q:Nat}[Ep ex][Ep bl]:Ep (f8 ex bl q):=by
 unfold f8;infer_instance
theorem Gx {st:PM Int}[Ep st]:∀(q:Nat) (l:LI),Ep (lK st q l)
 |0,l=>lj
 |q+1,l=>by
  haveI:=fun l=>Gx (st:=st) q l
  unfold lK;infer_instance
instance {lim:PM Unit}{st:PM Int}{q:Nat}[Ep lim][Ep st]:Ep (gD lim st q):=by
 haveI:=Gx (st:=st) q []
 unfold gD;infer_instance
theorem aaM (q:Nat):∀f,Ep (Ek q f)
 |0=>lj
 |f+1=>by
  haveI:=aaM q f
  unfold Ek;infer_instance
instance {q f:Nat}:Ep (Ek q f):=aaM q f
structure V {α:Type}(A:PS->Prop)(p:PM α)(Q:α->PS->Prop):Prop where
 h:∀{E:Int} {s t:PS} {a:α},p s=some (a,t)->Es E s->t.ok=true->A s->Q a t
def V.bnd {α β:Type}{p:PM α}{f:α->PM β}{A:PS->Prop}{Q:α->PS->Prop}{R:β->PS->Prop}[hp:Ep p][hf:∀a,Ep (f a)](h:V A p Q)(g:∀a,V (Q a) (f a) R):V A (p.bnd f) R:=⟨fun e hs k ha=>by
 obtain⟨a,u,e1,e2⟩:=aa e;have hu:=(hp.h e1 hs).1;exact(g a).h e2 hu k (h.h e1 hs (((hf a).h e2 hu).2 k) ha)⟩
def V.ret {α:Type}{a:α}{A:PS->Prop}{Q:α->PS->Prop}(h:∀s,A s->Q a s):V A (PM.ret a) Q:=⟨fun e hs k ha=>by
 obtain⟨rfl,rfl⟩:=au e;grind⟩
def V.none {A:PS->Prop}{Q:α->PS->Prop}:V A (fun _=>(none:Option (α×PS))) Q:=⟨fun e=>by cases e⟩
def V.cnd {α:Type}{c:PS->Bool}{p q:PM α}{A:PS->Prop}{Q:α->PS->Prop}(h:V (fun s=>A s/\c s=true) p Q)(g:V (fun s=>A s/\c s=false) q Q):V A (Go.Ab.cnd c p q) Q:=⟨fun e hs k ha=>by
 obtain⟨-,⟨hc,e⟩|⟨hc,e⟩⟩:=aD e
 ·exact h.h e hs k ⟨ha,hc⟩
 ·exact g.h e hs k ⟨ha,hc⟩⟩
def V.cok {α:Type}{p q:PM α}{A:PS->Prop}{Q:α->PS->Prop}[hq:Ep q](h:V A p Q):V A (Go.Ab.cok p q) Q:=⟨fun e hs k ha=>by
 rcases bT e with⟨-,e⟩|⟨hk,e⟩
 ·exact h.h e hs k ha
 ·have:=(hq.h e hs).2 k;simp_all⟩
def V.fnO {α:Type}{l:List LN}{p:PM α}{f:LN->PM α}{A:PS->Prop}{Q:α->PS->Prop}(h:V A p Q)(g:∀o∈l,V A (f o) Q):V A (Go.Ab.fnO l p f) Q:=⟨fun e hs k ha=>by
 obtain⟨-,⟨-,e⟩|⟨o,ho,e⟩⟩:=ei e
 ·exact h.h e hs k ha
 ·exact(g o (List.mem_of_find?_eq_some ho)).h e hs k ha⟩
variable {p:PM α}
def V.imp {A B:PS->Prop}{Q R:α->PS->Prop}(h:V A p Q)(ha:∀s,B s->A s)(hq:∀a t,Q a t->R a t):V B p R:=⟨fun e hs k hb=>hq _ _ (h.h e hs k (ha _ hb))⟩
def V.pre {A B:PS->Prop}{Q:α->PS->Prop}(h:V A p Q)(ha:∀s,B s->A s):V B p Q:=h.imp ha fun _ _=>id
def V.post {A:PS->Prop}{Q R:α->PS->Prop}(h:V A p Q)(hq:∀a t,Q a t->R a t):V A p R:=h.imp (fun _ k=>k) hq
def V.fst {A B:PS->Prop}{Q:α->PS->Prop}(h:V A p Q):V (fun s=>A s/\B s) p Q:=h.pre fun _ k=>k.1
def V.ex {ι:Type}{A:ι->PS->Prop}{Q:α->PS->Prop}(h:∀i,V (A i) p Q):V (fun s=>∃i,A i s) p Q:=⟨fun e hs k ⟨i,ha⟩=>(h i).h e hs k ha⟩
def V.and {P:Prop}{A:PS->Prop}{Q:α->PS->Prop}(h:P->V A p Q):V (fun s=>P/\A s) p Q:=⟨fun e hs k ha=>(h ha.1).h e hs k ha.2⟩
def V.both {A:PS->Prop}{Q R:α->PS->Prop}(h:V A p Q)(g:V A p R):V A p (fun a t=>Q a t/\R a t):=⟨fun e hs k ha=>⟨h.h e hs k ha,g.h e hs k ha⟩⟩
def V.snoc {α:Type}{p:PM α}{l:List α}{A:PS->Prop}{Q:List α->PS->Prop}(h:V A p (fun x t=>Q (l++[x]) t)):V A (Go.Ab.snoc p l) Q:=⟨fun e hs k ha=>by
 obtain⟨x,e1,-,rfl⟩:=cf e;exact h.h e1 hs k ha⟩
class NdP (A:PS->Prop):Prop where
 h:∀s t:PS,t.nd=s.nd->t.tt=s.tt->A s->A t
def V.kp [hp:Kp p]{A:PS->Prop}[hA:NdP A]:V A p (fun _=>A):=⟨fun {E s t a} e hs k ha=>hA.h s t (hp.h e).1 (hp.h e).2 ha⟩
def V.st {β:Type}{p:PM α}{f:α->PM β}{A:PS->Prop}{R:β->PS->Prop}[Kp p][Ep p][hf:∀a,Ep (f a)][NdP A](g:∀a,V A (f a) R):V A (p.bnd f) R:=V.bnd V.kp g
def V.sv {β:Type}{p:PM α}{f:α->PM β}{P:α->Prop}{A:PS->Prop}{R:β->PS->Prop}[Kp p][Ep p][hf:∀a,Ep (f a)][NdP A](h:V (fun _=>True) p (fun a _=>P a))(g:∀a,P a->V A (f a) R):V A (p.bnd f) R:=
 V.bnd (V.both (h.pre fun _ _=>trivial) V.kp) fun a=>V.and (g a)
def zK (v:Va):Prop:=rK v/\(v.I=[]/\v.L=[])
def W4 (x:No):Prop:=zK x.v
structure Ls (N:List No)(k:Int)(l:LI)(Ts:List Tr)(t:PS):Prop where
 r:l=eJ N.length Ts
 w:Ec Ts
 d:oa W4 Ts
 n:t.nd=N++iW Ts N.length
 t:t.tt=k
instance {N:List No}{k:Int}{l:LI}{Ts:List Tr}:NdP (Ls N k l Ts):=⟨fun s t h1 h2 h=>⟨h.r,h.w,h.d,h1.trans h.n,h2.trans h.t⟩⟩
abbrev Rs (O:Int->Bool)(N:List No)(k:Int)(l:LI)(Ts:List Tr):Int->PS->Prop:=fun a t=>∃T:Tr,O T.op=true/\Ls N k (l++[a]) (Ts++[T]) t
def LJ (O:Int->Bool)(N:List No)(k:Int)(l0:LI)(Ts0:List Tr)(l:LI)(t:PS):Prop:=∃Ts,(l.length=Ts.length/\(Ts.map Tr.op).all O=true)/\Ls N k (l0++l) (Ts0++Ts) t
instance {O:Int->Bool}{N:List No}{k:Int}{l0 l:LI}{Ts0:List Tr}:NdP (LJ O N k l0 Ts0 l):=⟨fun s t h1 h2 ⟨Ts,h3,h4⟩=>⟨Ts,h3,NdP.h s t h1 h2 h4⟩⟩
def Tx (O:Int->Bool)(p:PM Int):Prop:=∀N k l Ts,V (Ls N k l Ts) p (Rs O N k l Ts)
def Ie:∀(a b:List Tr) (n:Nat),eJ n (a++b)=eJ n a++eJ (n+eR a) b
 |[],b,n=>rfl
 |t::a,b,n=>by simp only[List.cons_append,eJ,Ie a b,eR,Nat.add_assoc]
def GH:∀(a b:List Tr) (n:Nat),iW (a++b) n=iW a n++iW b (n+eR a)
 |[],b,n=>rfl
 |t::a,b,n=>by simp only[List.cons_append,iW,GH a b,eR,Nat.add_assoc,lε]
def Tv:∀(a b:List Tr),eR (a++b)=eR a+eR b
 |[],b=>by simp only[List.nil_append,eR,Nat.zero_add]
 |t::a,b=>by simp only[List.cons_append,eR,Tv a b,Nat.add_assoc]
def IB:∀(a b:List Tr),Ec (a++b)↔Ec a/\Ec b
 |[],b=>by simp only[List.nil_append,Ec,true_and]
 |t::a,b=>by simp only[List.cons_append,Ec,IB a b,and_assoc]
def AN {P:No->Prop}:∀(a b:List Tr),oa P (a++b)↔oa P a/\oa P b
 |[],b=>by simp only[List.nil_append,oa,true_and]
 |t::a,b=>by simp only[List.cons_append,oa,AN a b,and_assoc]
variable {l0:LI} {Ts0 Ts:List Tr} {N:List No}
def V.add {O:Int->Bool}{op:Int}{v:Va}{l:LI}{k:Int}(hl:l.length=Ts.length)(ho:O op=true)(hk:fC op (Ts.map Tr.op)=true)(hc:dt ⟨op,nm,v,[]⟩=true)(hv:zK v):
  V (Ls N k (l0++l) (Ts0++Ts)) (eb ⟨op,nm,v,l⟩) (Rs O N k l0 Ts0):=⟨fun {E s t a} e hs ok h=>by
 obtain⟨rfl,rfl⟩:=abH e ok;have hr:=h.r;rw[Ie]at hr;obtain⟨h1,h2⟩:=List.append_inj' hr (by rw[oZ,hl]);obtain⟨w1,w2⟩:=(IB Ts0 Ts).1 h.w;obtain⟨d1,d2⟩:=(AN Ts0 Ts).1 h.d;have hn:=h.n;refine⟨.n op nm v Ts,ho,?_,?_,?_,?_,h.t⟩
 ·rw[Ie,h1];simp only[eJ,Tr.sz];rw[hn,lα,iX,Tv];grind
 ·rw[IB];exact⟨w1,⟨hk,hc,w2⟩,trivial⟩
 ·rw[AN];exact⟨d1,⟨hv,d2⟩,trivial⟩
 ·rw[hn,GH,GH];simp only[iW,Tr.fl,lε,lν,<-h2]⟩
def Tx.nod {O:Int->Bool}{op:Int}{v:Va}{l:LI}{k:Int}(hl:l.length=Ts.length)(ho:O op=true)(hk:fC op (Ts.map Tr.op)=true)(hc:dt ⟨op,nm,v,[]⟩=true)(hv:zK v):
  V (Ls N k (l0++l) (Ts0++Ts)) (eb ⟨op,nm,v,l⟩) (Rs O N k l0 Ts0):=V.add hl ho hk hc hv
def Tx.bnd {α:Type}{O:Int->Bool}{p:PM Int}{f:Int->PM α}[Ep p][∀a,Ep (f a)](h:Tx O p){N:List No}{k:Int}{l:LI}{Ts:List Tr}{R:α->PS->Prop}(g:∀a T,O T.op=true->V (Ls N k (l++[a]) (Ts++[T])) (f a) R):V (Ls N k l Ts) (p.bnd f) R:=
 V.bnd (h N k l Ts) fun a=>V.ex fun T=>V.and (g a T)
def Tx.imp {O O':Int->Bool}{p:PM Int}(h:Tx O p)(hO:∀o,O o=true->O' o=true):Tx O' p:=fun N k l Ts=>(h N k l Ts).post fun a t ⟨T,h1,h2⟩=>⟨T,hO _ h1,h2⟩
def Gk:By []:=fun c hc=>(by cases hc)
def ZK {k n:Int}(h: -9223372036854775808<=n/\n<=9223372036854775807):zK ⟨k,n,[],[],[]⟩:=⟨⟨h,Gk,fun i hi=>(by cases hi),fun t ht=>(by cases ht)⟩,rfl,rfl⟩
def R4 {k:Int}{s:LN}(h:By s):zK ⟨k,0,s,[],[]⟩:=⟨⟨⟨by simp,by simp⟩,h,fun i hi=>(by cases hi),fun t ht=>(by cases ht)⟩,rfl,rfl⟩
def io {k:Int}:zK ⟨k,0,[],[],[]⟩:=R4 Gk
def V.two {o:LN}{x y:Int}{T U:Tr}{k:Int}{l:LI}(ho:binO.any (fun t=>bv o t)=true)(hx:bo T.op=true)(hy:bo U.op=true):V (Ls N k ((l++[x])++[y]) ((Ts++[T])++[U])) (eb ⟨5,o,vz,[x,y]⟩) (Rs bo N k l Ts):=by
 rw[lε,lε];refine Tx.nod rfl rfl ?_ ?_ io
 ·show(true&&(bo T.op&&(bo U.op&&true)))=true;rw[hx,hy];rfl
 ·show(bif binO.any (fun t=>bv o t)then dC vz v0 else false)=true;rw[ho];rfl
def NL {ex:PM Int}[Ep ex](he:Tx bo ex)(ops:List LN)(ho:∀o∈ops,binO.any (fun t=>bv o t)=true):∀(q:Nat) (x:Int) (T:Tr) (N:List No) (k:Int) (l:LI) (Ts:List Tr),bo T.op=true->
  V (Ls N k (l++[x]) (Ts++[T])) (gY ex ops q x) (Rs bo N k l Ts)
 |0,x,T,N,k,l,Ts,hT=>V.none
 |q+1,x,T,N,k,l,Ts,hT=>V.fnO (V.ret fun s h=>⟨T,hT,h⟩) fun o hm=>V.st fun _=>he.bnd fun y U hU=>V.bnd (V.two (ho o hm) hT hU) fun z=>V.ex fun W=>V.and fun hW=>NL he ops ho q z W N k l Ts hW
variable {ops:List LN}
def IE {ex:PM Int}[Ep ex](he:Tx bo ex)(ho:∀o∈ops,binO.any (fun t=>bv o t)=true)(q:Nat):Tx bo (f7 ex ops q):=fun N k l Ts=>he.bnd fun x T hT=>NL he ops ho q x T N k l Ts hT
def B1 (h:(ops.all fun o=>binO.any fun t=>bv o t)=true):∀o∈ops,binO.any (fun t=>bv o t)=true:=by simp_all
def aeX {ex:PM Int}[Ep ex](he:Tx bo ex):Tx bo (DB ex):=fun N k l Ts=>he.bnd fun x T hT=>V.fnO (V.ret fun s h=>⟨T,hT,h⟩) fun o hm=>V.st fun _=>he.bnd fun y U hU=>V.two (B1 (by rfl) o hm) hT hU
def G_ (s:PS)(i:Nat):s.peek i=W1\/(s.peek i∈s.tk/\bc (s.peek i)=true):=by
 unfold PS.peek;grind
def rr {s:PS}{i:Nat}{k:Int}(h:eqI (s.peek i).k k=true)(hk:k≠0):s.peek i∈s.tk/\bc (s.peek i)=true/\(s.peek i).k=k:=by
 rw[bO,lδ]at h;rcases G_ s i with e|e
 ·rw[e]at h;exact absurd h.symm hk
 all_goals simp_all
def ac5 {t:Tk}(h:bc t=true)(hk:t.k=1):bw t.s=true:=by unfold bc at h;rw[hk]at h;exact h
def aei {t:Tk}(h:bc t=true)(hk:t.k=3):0<=t.n:=by
 unfold bc at h;rw[hk]at h;have h:aS 0 t.n=true:=h;rwa [cn,lδ]at h
def ac6 {t:Tk}(h:bc t=true)(hk:t.k=4):t.s.length<=64:=by
 unfold bc at h;rw[hk]at h;have h:aS (t.s.length:Int) 64=true:=h;rw[cn,lδ]at h;omega
def QR {k:Int}(hk:k≠0):V (fun _=>True) (jk k) (fun t _=>(∃e,TkD e t)/\bc t=true/\t.k=k):=⟨fun {E s t a} e hs ok _=>by
 obtain⟨-,e⟩:=bb e;unfold PS.take at e;cases hc:eqI (s.peek 0).k k with
 |false=>
  rw[hc]at e;injection e with _ e;subst e;rw[eh s (by decide)]at ok;cases ok
 |true=>
  rw[hc]at e;injection e with e _;subst e;obtain⟨h1,h2,h3⟩:=rr hc hk;exact⟨⟨_,hs.tk _ h1⟩,h2,h3⟩⟩
def qP:V (fun _=>True) pName (fun n _=>bw n=true/\By n):=V.bnd (QR (k:=1) (by decide)) fun t=>V.ret fun s h=>by
 obtain⟨⟨_,h1⟩,h2,h3⟩:=h;exact⟨ac5 h2 h3,h1.s⟩
def EN:∀(l:List LN) (i:Int) (s:PS),(dn l i s).2.ok=true->i<=(dn l i s).1/\(dn l i s).1<i+l.length
 |[],i,s,h=>by
  unfold dn at h;rw[eh s (by decide)]at h;cases h
 |x::r,i,s,h=>by
  unfold dn at h ⊢
  cases hx:s.is x with
  |true=>grind
  |false=>
   rw[hx]at h;have:=EN r (i+1) s h;grind
def t_kind:V (fun _=>True) pKind (fun k _=>1<=k/\k<=5):=⟨fun {E s t a} e hs ok _=>by
 obtain⟨-,e⟩:=bb e;have:=EN kindL 1 s (by simp_all);rw[e]at this;have h5:kindL.length=5:=rfl;omega⟩
def uP {k:Int}(h:1<=k/\k<=5):eI k=true:=by
 unfold eI;simp only[cn,lγ,lδ];exact h
def V.peek {f:Tk->PM α}{c:PS->Bool}{P:Tk->Prop}{A:PS->Prop}[NdP A]{R:α->PS->Prop}[hf:∀t,Ep (f t)](hc:∀s {E:Int},Es E s->c s=true->P (s.peek 0))(g:∀t,P t->V A (f t) R):V (fun s=>A s/\c s=true) (pPeek.bnd f) R:=⟨fun e hs ok h=>by
 obtain⟨a,u,e1,e2⟩:=aa e;obtain⟨-,e1⟩:=bb e1;injection e1 with e1 e3;subst e1 e3;exact(g _ (hc _ hs h.2)).h e2 hs ok h.1⟩
def LJ.step {O:Int->Bool}{ex:PM Int}(he:Tx O ex){k:Int}(l:LI):V (LJ O N k l0 Ts0 l) ex (fun a t=>LJ O N k l0 Ts0 (l++[a]) t):=V.ex fun Ts=>V.and fun⟨h1,h2⟩=>(he N k (l0++l) (Ts0++Ts)).post fun a t ⟨T,g1,g2⟩=>⟨Ts++[T],⟨by simp[h1],by simp[h2,g1]⟩,by rw[<-lε,<-lε];exact g2⟩
def LJ.nil {O:Int->Bool}{k:Int}{t:PS}(h:Ls N k l0 Ts0 t):LJ O N k l0 Ts0 [] t:=⟨[],⟨rfl,rfl⟩,by simp_all⟩
def Z5 {α:Type}{begins:PS->Bool}{p:PM α}{most:Nat}{J:List α->PS->Prop}[Ep p][∀l,NdP (J l)](hp:∀l,V (J l) p (fun x t=>J (l++[x]) t)):∀(q n:Nat) (l:List α),l.length=n->n<=most->V (J l) (sN begins (snoc p) most q n l) (fun l' t=>l'.length<=most/\J l' t)
 |0,_,_,_,_=>V.none
 |q+1,n,l,h1,h3=>by
  haveI:=fun a=>Z9 (α:=List α) (begins:=begins) (most:=most) (elem:=snoc p) (fun a=>inferInstance) q (n+1) a
  haveI:Ep (lf fun s=>((),bif !begins s then s.fail 13 else bif Nat.beq n most then s.fail 5 else s)):=pq fun s=>xj (c:=fun s=>!begins s) (d:=fun _=>Nat.beq n most) s
  refine V.cok (V.bnd (Q:=fun _ t=>n≠most/\J l t) ⟨fun {E s t a} e hs ok h=>?_⟩ fun _=>V.and fun hn=>V.bnd (V.snoc (Q:=fun l' t=>(∃a,l'=l++[a])/\J l' t) ((hp l).post fun a t g=>⟨⟨a,rfl⟩,g⟩)) fun l'=>V.and fun⟨a,ha⟩=>?_)
  ·obtain⟨-,e⟩:=bb e;injection e with _ e;subst e;cases h6:begins s<;>cases h7:Nat.beq n most<;>simp only[h6,h7,Bool.not_false,Bool.not_true,cond_true,cond_false]at ok ⊢
   case true.false=>exact⟨fun h=>(by simp_all),h⟩
   all_goals rw[eh s (by decide)]at ok;cases ok
  ·subst ha;exact V.cnd (V.fst (V.st fun _=>Z5 hp q (n+1) _ (by simp[h1]) (by omega))) (V.fst (V.ret fun s h=>⟨by grind,h⟩))
def ł {ex:PM Int}[Ep ex](he:Tx bo ex)(q:Nat){k:Int}:V (Ls N k l0 Ts0) (sa ex q) (fun l' t=>l'.length<=16/\LJ bo N k l0 Ts0 l' t):=
 V.st fun _=>V.bnd (Q:=fun l' t=>l'.length<=16/\LJ bo N k l0 Ts0 l' t) ((V.cnd (V.fst (V.ret fun s h=>⟨Nat.zero_le _,h⟩)) (V.fst (Z5 (LJ.step he) q 0 [] rfl (Nat.zero_le _)))).pre fun s h=>LJ.nil h) fun l=>V.and fun h=>V.st fun _=>V.ret fun s g=>⟨h,g⟩
def aeZ {f:PM Int}[Ep f](hf:Tx bo f){o:LN}(ho:o=[45]\/o=[33]):Tx bo (pUn o f):=fun N k l Ts=>V.st fun _=>V.bnd (V.cok (hf N k l Ts)) fun x=>V.ex fun T=>V.and fun hT=>V.st fun _=>Tx.nod rfl rfl (by
  show(true&&(bo T.op&&true))=true;grind) (by rcases ho with rfl|rfl<;>rfl) io
def CT {O:Int->Bool}{op:Int}{v:Va}(ho:O op=true)(hk:fC op []=true)(hc:dt ⟨op,nm,v,[]⟩=true)(hv:zK v):Tx O (eb ⟨op,nm,v,[]⟩):=fun N k l Ts=>(Tx.nod (l:=[]) (Ts:=[]) rfl ho hk hc hv).pre fun s g=>by rw[lν,lν];exact g
def aeS {n:Int}(h:0<=n/\n<=9223372036854775807):dt ⟨1,[],vI n,[]⟩=true:=by
 show(bif kE (vI n)then(bif aS 0 n then true else eqI 1 3)else false)=true;have h1:kE (vI n)=true:=by
  show(true&&((!(!eqI n 0&&false))&&true))=true;simp
 rw[h1,ji h.1];rfl
def aa7 {s:LN}(h:s.length<=64):kE ⟨3,0,s,[],[]⟩=true:=by
 show(true&&(true&&(!((!bv s []&&false)||false)&&(!(aO 64 (fG s)||false)&&true))))=true;have:aO 64 (fG s)=false:=by rw[cZ];exact mρ (by unfold fG;omega)
 simp_all
def Ý {s:PS}{x:LN}(h:s.is x=true):(s.peek 0).s=x/\((s.peek 0).k=2\/(s.peek 0).k=5):=by
 unfold PS.is at h;simp only[bO,ec,lδ]at h;simp_all
def NB {c:PM Va}{P:PS->Va->Prop}(h3:∀s {E:Int},Es E s->eqI (s.peek 0).k 4=true->P s ⟨3,0,(s.peek 0).s,[],[]⟩)(h1:∀s,s.is [116,114,117,101]=true->P s ⟨2,1,[],[],[]⟩)(h2:∀s,s.is [102,97,108,115,101]=true->P s ⟨2,0,[],[],[]⟩)(hc:∀s0,V (fun s=>s=s0/\(eqI (s.peek 0).k 4=false/\s.is [116,114,117,101]=false/\s.is [102,97,108,115,101]=false)) c (fun v _=>P s0 v))(s0:PS):
  V (fun s=>s=s0) (jc c) (fun v _=>P s0 v):=by
 refine V.cnd ⟨fun {E s t a} e hs ok h=>?_⟩ (V.cnd ⟨fun {E s t a} e hs ok h=>?_⟩ (V.cnd ⟨fun {E s t a} e hs ok h=>?_⟩ ((hc s0).pre fun s h=>⟨h.1.1.1,h.1.1.2,h.1.2,h.2⟩)))
 ·obtain⟨-,e⟩:=bb e;injection e with e _;subst e;rw[<-h.1];exact h3 s hs h.2
 ·obtain⟨-,e⟩:=bb e;injection e with e _;subst e;rw[<-h.1.1];exact h1 s h.2
 ·obtain⟨-,e⟩:=bb e;injection e with e _;subst e;rw[<-h.1.1.1];exact h2 s h.2
def V.all {Q:α->PS->Prop}(h:∀s0,V (fun s=>s=s0) p Q):V (fun _=>True) p Q:=⟨fun {E s t a} e hs ok _=>(h s).h e hs ok rfl⟩
def adr {ex:PM Int}[Ep ex](he:Tx bo ex)(q:Nat):Tx bo (fD ex q):=fun N k l Ts=>by
 haveI:Ep (fun _=>(none:Option (Va×PS))):=lj
 haveI:Kp (fun _=>(none:Option (Va×PS))):=SJ
 refine V.cnd (V.peek (P:=fun t=>bw t.s=true) (fun s {E} hs hc=>?_) fun t ht=>V.st fun _=>CT rfl rfl ?_ io N k l Ts) (V.fst (V.cnd (V.peek (P:=fun t=>bw t.s=true\/t.s=[105,110,116,115]\/t.s=[115,116,114,105,110,103,115]) (fun s {E} hs hc=>?_) fun t ht=>V.st fun _=>V.bnd (ł he q) fun l'=>V.and fun g2=>V.ex fun Ts'=>V.and fun⟨g1,g3⟩=>Tx.nod g1 rfl ?_ ?_ io)
  (V.fst (V.cnd (V.peek (P:=fun t=>0<=t.n/\t.n<=9223372036854775807) (fun s {E} hs hc=>?_) fun t ht=>V.st fun _=>CT rfl rfl (aeS ht) (ZK ⟨by omega,ht.2⟩) N k l Ts)
  (V.fst (V.cnd (V.fst (V.sv (P:=fun v=>dt ⟨1,[],v,[]⟩=true/\zK v) (V.all (NB (P:=fun _ v=>dt ⟨1,[],v,[]⟩=true/\zK v) (fun s {E} hs hc=>?_) (fun _ _=>⟨by rfl,ZK (by decide)⟩) (fun _ _=>⟨by rfl,io⟩) fun _=>V.none)) fun v hv=>CT rfl rfl hv.1 hv.2 N k l Ts))
  (V.fst (V.cnd (V.fst (V.st fun _=>CT rfl rfl (by rfl) io N k l Ts))
  (V.fst (V.cnd (V.fst (V.st fun _=>V.bnd (V.cok (he N k l Ts)) fun x=>V.ex fun T=>V.and fun hT=>V.st fun _=>V.ret fun s h=>⟨T,hT,h⟩))
  (V.fst ?_)))))))))))
 ·rw[lγ]at hc;obtain⟨-,h2,h3⟩:=rr hc.1 (by decide);exact ac5 h2 h3
 ·show(bif bw t.s then dC vz v0 else false)=true;rw[ht];rfl
 ·rw[mκ,mκ]at hc;rcases hc with hc|hc|hc
  ·obtain⟨-,h2,h3⟩:=rr hc (by decide);exact .inl (ac5 h2 h3)
  ·exact .inr (.inl (Ý hc).1)
  ·exact .inr (.inr (Ý hc).1)
 ·show(Nat.ble (Ts'.map Tr.op).length 16&&(Ts'.map Tr.op).all bo)=true;simp_all
 ·show(bif bw t.s then dC vz v0 else bif bv t.s [105,110,116,115]then dC vz v0 else bif bv t.s [115,116,114,105,110,103,115]then dC vz v0 else false)=true;rcases ht with h|h|h
  ·rw[h];rfl
  ·rw[h];rfl
  ·rw[h];rfl
 ·obtain⟨h1,h2,h3⟩:=rr hc (by decide);exact⟨aei h2 h3,(hs.tk _ h1).n⟩
 ·obtain⟨h1,h2,h3⟩:=rr hc (by decide);refine⟨?_,R4 (hs.tk _ h1).s⟩;show(bif kE ⟨3,0,(s.peek 0).s,[],[]⟩then true else false)=true;rw[aa7 (ac6 h2 h3)];rfl
 ·refine⟨fun {E s t a} e hs ok h=>?_⟩
  obtain⟨b,u,e1,e2⟩:=aa e;obtain⟨-,e1⟩:=bb e1;injection e1 with _ e1;subst e1;obtain⟨-,rfl⟩:=au e2;rw[eh s (by decide)]at ok;cases ok
def CS (q:Nat):∀(f lvl:Nat),Tx bo (fu q f lvl)
 |0,lvl=>fun N k l Ts=>V.none
 |f+1,0=>IE (CS q f 1) (B1 (by rfl)) q
 |f+1,1=>IE (CS q f 2) (B1 (by rfl)) q
 |f+1,2=>aeX (CS q f 3)
 |f+1,3=>IE (CS q f 4) (B1 (by rfl)) q
 |f+1,4=>IE (CS q f 5) (B1 (by rfl)) q
 |f+1,5=>fun N k l Ts=>V.cnd (V.fst (aeZ (CS q f 5) (.inl rfl) N k l Ts)) (V.fst (V.cnd (V.fst (aeZ (CS q f 5) (.inr rfl) N k l Ts)) (V.fst (CS q f 6 N k l Ts))))
 |f+1,_+6=>adr (CS q f 0) q
def Ń {ex:PM Int}[Ep ex](he:Tx bo ex)(q:Nat):Tx pN (pD ex q):=fun N k l Ts=>
 V.st fun _=>V.sv qP fun n hn=>V.st fun _=>he.bnd fun key T hT=>V.st fun _=>V.st fun _=>V.sv qP fun m hm=>V.bnd (ł he q) fun l'=>V.and fun g2=>V.ex fun Ts'=>V.and fun⟨g1,g3⟩=>by
  refine V.pre (A:=Ls N k (l++(key::l')) (Ts++(T::Ts'))) (Tx.nod (by simp[g1]) rfl ?_ ?_ (R4 hm.2)) fun s h=>by simp_all
  ·show((Nat.ble 1 ((T::Ts').map Tr.op).length&&Nat.ble ((T::Ts').map Tr.op).length 17)&&(bo T.op&&(Ts'.map Tr.op).all bo))=true;simp_all
  ·show(bif bw n then bif bw m then dC ⟨0,0,m,[],[]⟩ ⟨0,0,m,[],[]⟩else false else false)=true;rw[hn.1,hm.1];show(true&&(true&&(bv m m&&true)))=true;rw[K8];rfl
def ϫ {o:Int}(h:bo o=true):m8 o=true:=by unfold m8;grind
def ϐ {o:Int}(h:pN o=true):m8 o=true:=by unfold m8;simp_all
def TS {ex:PM Int}[Ep ex](he:Tx bo ex)(q:Nat):Tx m8 (kU ex q):=fun N k l Ts=>V.st fun _=>V.cnd (V.fst ((Ń he q).imp (fun _=>ϐ) N k l Ts)) (V.fst (he.imp (fun _=>ϫ) N k l Ts))
def CR {O:Int->Bool}{op:Int}{v:Va}{l:LI}{k:Int}(hl:l.length=Ts.length)(ho:O op=true)(hk:fC op (Ts.map Tr.op)=true)(hc:dt ⟨op,nm,v,[]⟩=true)(hv:zK v):
  V (Ls N k (l0++l) (Ts0++Ts)) (gL ⟨op,nm,v,l⟩) (Rs O N k l0 Ts0):=V.st fun _=>Tx.nod hl ho hk hc hv
def Ņ {O:Int->Bool}{op:Int}{v:Va}(ho:O op=true)(hk:fC op []=true)(hc:dt ⟨op,nm,v,[]⟩=true)(hv:zK v):Tx O (gL ⟨op,nm,v,[]⟩):=fun N k l Ts=>V.st fun _=>CT ho hk hc hv N k l Ts
def Ċ {ex:PM Int}[Ep ex]{J:LI->PS->Prop}[∀l,NdP (J l)](hp:∀l,V (J l) ex (fun x t=>J (l++[x]) t)):∀(n:Nat) (l:LI),V (J l) (jj ex n l) (fun l' t=>l'.length=l.length+n/\J l' t)
 |0,l=>V.ret fun s h=>⟨rfl,h⟩
 |n+1,l=>by
  haveI:=fun l=>Gy (ex:=ex) n l
  have key:V (J l) ((snoc ex l).bnd (jj ex n)) (fun l' t=>l'.length=l.length+(n+1)/\J l' t):=V.bnd (V.snoc (Q:=fun l' t=>l'.length=l.length+1/\J l' t) ((hp l).post fun a t g=>⟨by simp,g⟩)) fun l'=>V.and fun ha=>(Ċ hp n l').post fun x t g=>⟨by omega,g.2⟩
  unfold jj;cases l.isEmpty
  ·exact V.st fun _=>key
  ·exact key
def ņ {ex:PM Int}[Ep ex](he:Tx bo ex)(n:Nat){k:Int}:V (Ls N k l0 Ts0) (tf ex n) (fun l' t=>l'.length=n/\LJ bo N k l0 Ts0 l' t):=by
 haveI:=Gy (ex:=ex) n []
 exact V.st fun _=>V.bnd ((Ċ (LJ.step he) n []).pre fun s h=>LJ.nil h) fun l=>V.and fun h=>V.st fun _=>V.ret fun s g=>⟨by simp_all,g⟩
def ń {ex bl:PM Int}[Ep ex][Ep bl](he:Tx bo ex)(hb:Tx lb bl){op:Int}(ho:op=11\/op=12):Tx mw (pE op ex bl):=fun N k l Ts=>by
 have h2:∀(c b:Int) (C B:Tr),bo C.op=true->lb B.op=true->V (Ls N k ((l++[c])++[b]) ((Ts++[C])++[B])) (eb ⟨op,[],vz,[c,b]⟩) (Rs mw N k l Ts):=fun c b C B hC hB=>by
  rw[lε,lε];refine Tx.nod rfl (by rcases ho with rfl|rfl<;>rfl) ?_ (by rcases ho with rfl|rfl<;>kernel_rfl) io;rcases ho with rfl|rfl
  ·show(true&&(bo C.op&&(lb B.op&&true)))=true;simp_all
  ·show(true&&(bo C.op&&(lb B.op&&true)))=true;simp_all
 have h11:∀(p q:PM Int),Ep p->Ep q->Ep (bif eqI op 11 then p else q):=fun p q h1 h2=>by grind
 haveI:∀c b:Int,Ep (bif eqI op 11 then cnd (fun s=>s.is [101,108,115,101]) (pUp.bnd fun _=>bl.bnd fun e=>eb ⟨op,[],vz,[c,b,e]⟩) (eb ⟨op,[],vz,[c,b]⟩)else eb ⟨op,[],vz,[c,b]⟩):=fun c b=>h11 _ _ inferInstance inferInstance
 refine V.st fun _=>he.bnd fun c C hC=>V.st fun _=>hb.bnd fun b B hB=>?_
 rcases ho with rfl|rfl
 ·refine V.cnd (V.fst (V.st fun _=>hb.bnd fun e E hE=>?_)) (V.fst (h2 c b C B hC hB));rw[lε,lε,lε,lε];refine Tx.nod rfl rfl ?_ (by rfl) io;show(true&&(bo C.op&&(lb B.op&&(lb E.op&&true))))=true;simp_all
 ·exact h2 c b C B hC hB
def Ň {ex bl:PM Int}[Ep ex][Ep bl](he:Tx bo ex)(hb:Tx lb bl)(q:Nat):Tx mw (f8 ex bl q):=fun N k l Ts=>by
 refine V.cnd (V.fst (V.st fun _=>V.sv qP fun n hn=>V.st fun _=>V.sv t_kind fun kd hk=>(TS he q).bnd fun x X hX=>CR rfl rfl ?_ ?_ io)) (V.fst
  (V.cnd (V.fst (V.sv qP fun n hn=>(TS he q).bnd fun x X hX=>CR rfl rfl ?_ ?_ io)) (V.fst
  (V.cnd (V.fst ((Ń he q).bnd fun x X hX=>CR rfl rfl ?_ (by rfl) io)) (V.fst
  (V.cnd (V.fst (V.st fun _=>ń he hb (.inl rfl) N k l Ts)) (V.fst
  (V.cnd (V.fst (V.st fun _=>ń he hb (.inr rfl) N k l Ts)) (V.fst
  (V.cnd (V.fst (V.st fun _=>V.cnd (V.fst (Ņ rfl rfl (by rfl) io N k l Ts)) (V.fst (he.bnd fun x X hX=>CR rfl rfl ?_ (by rfl) io)))) (V.fst
  (V.cnd (V.fst (V.st fun _=>Ņ rfl rfl (by rfl) io N k l Ts)) (V.fst
  (V.cnd (V.fst (V.st fun _=>V.bnd (ņ he 2) fun l'=>V.and fun g2=>V.ex fun Ts'=>V.and fun⟨g1,g3⟩=>CR g1 rfl ?_ (by rfl) io)) (V.fst
  (V.cnd (V.fst (V.st fun _=>V.bnd (ņ he 3) fun l'=>V.and fun g2=>V.ex fun Ts'=>V.and fun⟨g1,g3⟩=>CR g1 rfl ?_ (by rfl) io)) (V.fst
  (V.cnd (V.fst (V.st fun _=>V.bnd (ņ he 1) fun l'=>V.and fun g2=>V.ex fun Ts'=>V.and fun⟨g1,g3⟩=>CR g1 rfl ?_ (by rfl) io)) (V.fst ?_)))))))))))))))))))
 ·show(true&&(m8 X.op&&true))=true;grind
 ·show(bif bw n then bif eI kd then dC ⟨kd,0,[],[],[]⟩ ⟨kd,0,[],[],[]⟩else false else false)=true;rw[hn.1,uP hk];show(eqI kd kd&&true)=true;rw[nD];rfl
 ·show(true&&(m8 X.op&&true))=true;grind
 ·show(bif bw n then dC vz v0 else false)=true;rw[hn.1];rfl
 ·show(true&&(pN X.op&&true))=true;grind
 ·show(true&&(bo X.op&&true))=true;grind
 ·show(Nat.beq (Ts'.map Tr.op).length 2&&(Ts'.map Tr.op).all bo)=true;simp_all
 ·show(Nat.beq (Ts'.map Tr.op).length 3&&(Ts'.map Tr.op).all bo)=true;simp_all
 ·show(Nat.beq (Ts'.map Tr.op).length 1&&(Ts'.map Tr.op).all bo)=true;simp_all
 ·refine⟨fun {E s t a} e hs ok h=>?_⟩
  obtain⟨b,u,e1,e2⟩:=aa e;obtain⟨-,e1⟩:=bb e1;injection e1 with _ e1;subst e1;obtain⟨-,rfl⟩:=au e2;rw[eh s (by decide)]at ok;cases ok
def Y5 {st:PM Int}[Ep st]{J:LI->PS->Prop}[∀l,NdP (J l)](hp:∀l,V (J l) st (fun x t=>J (l++[x]) t)):∀(q:Nat) (l:LI),V (J l) (lK st q l) J
 |0,l=>V.none
 |q+1,l=>by
  haveI:=fun l=>Gx (st:=st) q l
  exact V.cok (V.cnd (V.fst (V.ret fun s h=>h)) (V.fst (V.bnd (V.snoc (Q:=J) (hp l)) fun l'=>Y5 hp q l')))
def TR {lim:PM Unit}{st:PM Int}[Ep lim][Ep st]{L:List No->Int->Prop}(hst:Tx mw st)(hl:∀A:PS->Prop,V A lim (fun _ t=>A t/\L t.nd t.tt))(q:Nat){k:Int}:
  V (Ls N k l0 Ts0) (gD lim st q) (fun a t=>∃T:Tr,lb T.op=true/\Ls N k (l0++[a]) (Ts0++[T]) t/\L t.nd t.tt):=by
 haveI:=Gx (st:=st) q []
 unfold gD;refine V.st fun _=>V.bnd ((Y5 (LJ.step hst) q []).pre fun s h=>LJ.nil h) fun l=>V.ex fun Ts'=>V.and fun⟨g1,g2⟩=>V.cok (V.bnd (Tx.nod (O:=lb) g1 rfl g2 (by kernel_rfl) io) fun x=>V.ex fun T=>V.and fun hT=>V.bnd (hl _) fun _=>?_)
 haveI:NdP (fun t=>Ls N k (l0++[x]) (Ts0++[T]) t/\L t.nd t.tt):=⟨fun s t h1 h2 h=>⟨NdP.h s t h1 h2 h.1,by rw[h1,h2];exact h.2⟩⟩
 exact V.st fun _=>V.ret fun s h=>⟨T,hT,h.1,h.2⟩
def aeW (q:Nat):∀f,Tx lb (Ek q f)
 |0=>fun N k l Ts=>V.none
 |f+1=>fun N k l Ts=>(TR (L:=fun _ _=>True) (Ň (CS q f 0) (aeW q f) q) (fun A=>V.ret fun s h=>⟨h,trivial⟩) q).post fun a t ⟨T,h1,h2,_⟩=>⟨T,h1,h2⟩
def adu (nd:List No)(k:Int):Prop:=aO 1500 (ae .i64 (k+(nd.length:Int)))=false/\aO 24 (cN nd)=false
def ë {s t:PS}{u:Unit}(e:td s=some (u,t)):(s.nd.length<10000/\0<s.nd.length)/\t=(bif aO 1500 (ae .i64 (s.tt+(s.nd.length:Int)))then s.fail 5 else bif aO 24 (cN s.nd)then s.fail 5 else s):=by
 obtain⟨h1,h2,-,-,h3⟩:=SM e;simp_all
instance:Ep td:=⟨fun {E s t a} e h=>by
 obtain⟨-,rfl⟩:=ë e;have:=xj (c:=fun s=>aO 1500 (ae .i64 (s.tt+(s.nd.length:Int)))) (d:=fun s=>aO 24 (cN s.nd)) (e:=5) (f:=5) s
 exact⟨this.es h,this.ok⟩⟩
def aeY (A:PS->Prop):V A td (fun _ t=>A t/\adu t.nd t.tt/\t.nd.length<10000):=⟨fun {E s t a} e hs ok h=>by
 obtain⟨⟨h0,-⟩,rfl⟩:=ë e;cases h1:aO 1500 (ae .i64 (s.tt+(s.nd.length:Int)))with
 |true=>rw[h1,cond_true,eh s (by decide)]at ok;cases ok
 |false=>
  rw[h1,cond_false]at ok;cases h2:aO 24 (cN s.nd)with
  |true=>rw[h2,cond_true,eh s (by decide)]at ok;cases ok
  |false=>exact⟨h,⟨h1,h2⟩,h0⟩⟩
mutual
def YM {P:No->Prop}(hP:∀op nm v a b,P ⟨op,nm,v,a⟩->P ⟨op,nm,v,b⟩):∀(t:Tr) (b:Nat),iD P t->∀x∈t.fl b,P x
 | .n op nm v ks,b,h,x,hx=>by
  simp only[Tr.fl,mγ,List.mem_singleton]at hx;rcases hx with hx|rfl
  ·exact RF hP ks b h.2 x hx
  ·exact hP _ _ _ _ _ h.1
def RF {P:No->Prop}(hP:∀op nm v a b,P ⟨op,nm,v,a⟩->P ⟨op,nm,v,b⟩):∀(l:List Tr) (b:Nat),oa P l->∀x∈iW l b,P x
 |[],b,h,x,hx=>by cases hx
 |t::r,b,h,x,hx=>by
  simp only[iW,mγ]at hx;rcases hx with hx|hx
  ·exact YM hP t b h.1 x hx
  ·exact RF hP r _ h.2 x hx
end
mutual
def ŀ {ns:List No}:∀(t:Tr) (b:Nat),DI ns t b->Wf t->∀x∈t.fl b,pz ns x=true/\dt x=true
 | .n op nm v ks,b,ha,hw,x,hx=>by
  simp only[DI]at ha;simp only[Wf]at hw;simp only[Tr.fl,mγ,List.mem_singleton]at hx;rcases hx with hx|rfl
  ·exact TP ks b ha.1 hw.2.2 x hx
  ·exact⟨by rw[SI ha.1];exact hw.1,hw.2.1⟩
def TP {ns:List No}:∀(l:List Tr) (b:Nat),CW ns l b->Ec l->∀x∈iW l b,pz ns x=true/\dt x=true
 |[],b,ha,hw,x,hx=>by cases hx
 |t::r,b,ha,hw,x,hx=>by
  simp only[CW]at ha;simp only[Ec]at hw;simp only[iW,mγ]at hx;rcases hx with hx|hx
  ·exact ŀ t b ha.1 hw.1 x hx
  ·exact TP r _ ha.2 hw.2 x hx
end
def K_ {r:List No}{i:Nat}{a b:LI}(h:x.kids=b):gM (x::r) i (a++b)=gM r (i+1) (a++[(i:Int)]):=by
 subst h;simp only[gM,if_true];simp
mutual
def S8:∀(t:Tr) (b:Nat) (roots:LI) (r:List No),gM (t.fl b++r) b roots=gM r (b+t.sz) (roots++[((b+t.sz - 1:Nat):Int)])
 | .n op nm v ks,b,roots,r=>by
  simp only[Tr.fl,lε];rw[MR ks b roots];simp only[List.cons_append,List.nil_append,Tr.sz];rw[K_ rfl];rfl
def MR:∀(l:List Tr) (b:Nat) (roots:LI) (r:List No),gM (iW l b++r) b roots=gM r (b+eR l) (roots++eJ b l)
 |[],b,roots,r=>by simp only[iW,List.nil_append,eR,Nat.add_zero,eJ,lν]
 |t::l,b,roots,r=>by
  simp only[iW,lε,eR,eJ];rw[S8 t b roots,MR l,Nat.add_assoc];simp only[lε,List.cons_append,List.nil_append]
end
def Ρ {t:Tr}(hw:Wf t)(ho:t.op=18)(hh:aO 24 (cN (t.fl 0))=false):gz (t.fl 0)=true:=by
 have ha:=aay t [] [];simp only[List.nil_append,lν,List.length_nil]at ha;unfold gz;simp only[lγ,lσ];refine⟨?_,?_,fun x hx=>ŀ t 0 ha hw x hx,?_⟩
 ·have:=S8 t 0 [] [];rw[lν]at this;rw[this];rfl
 ·have:=rp t 0 ha;rw[Nat.zero_add]at this;rw[gB,this,ho];rfl
 ·rw[cZ,lρ]at hh;rw[cn,lδ];omega
def V.chk {A:PS->Prop}{c:PS->Bool}{e:Int}(he:e≠0):V A (lf fun s=>((),bif c s then s.fail e else s)) (fun _ t=>A t/\c t=false):=⟨fun {E s t a} h hs ok ha=>by
 obtain⟨-,h⟩:=bb h;injection h with _ h;subst h;cases hc:c s with
 |true=>rw[hc,cond_true,eh s he]at ok;cases ok
 |false=>simp_all⟩
theorem wD {c:PS->Bool}{e:Int}:Ep (lf fun s=>((),bif c s then s.fail e else s)):=pq fun s=>xj (c:=c) (d:=fun _=>false) (f:=0) s
theorem acF {c:PS->Bool}{e:Int}:Kp (lf fun s=>((),bif c s then s.fail e else s)):=rW fun s=>xj (c:=c) (d:=fun _=>false) (f:=0) s
instance:NdP (fun _=>True):=⟨fun _ _ _ _ _=>trivial⟩
def ĩ {begins:PS->Bool}{elem:PM α}{most:Nat}{P:α->Prop}[Ep elem](he:V (fun _=>True) elem (fun a _=>P a)):V (fun _=>True) (EC begins (snoc elem) most q []) (fun l' _=>l'.length<=most/\∀x∈l',P x):=by
 haveI:∀l:List α,NdP (fun _=>∀x∈l,P x):=fun l=>⟨fun _ _ _ _ h=>h⟩
 refine V.cnd (V.fst (V.ret fun s h=>⟨Nat.zero_le _,fun x hx=>(by cases hx)⟩)) (V.fst ((Z5 (J:=fun l _=>∀x∈l,P x) (fun l=>?_) q 0 [] rfl (Nat.zero_le _)).pre fun _ _ x hx=>(by cases hx)));exact(V.and fun hl=>he.post fun x t h y hy=>by
  grind).pre fun s h=>⟨h,trivial⟩
def aa5:V (fun _=>True) pInt (fun n _=> -9223372036854775807<=n/\n<=9223372036854775807):=by
 have h3:V (fun _=>True) (jk 3) (fun t _=>(0<=t.n/\t.n<=9223372036854775807)/\True):=(QR (k:=3) (by decide)).post fun t _ ⟨⟨_,h1⟩,h2,h3⟩=>⟨⟨aei h2 h3,h1.n⟩,trivial⟩
 refine V.cnd (V.fst (V.st fun _=>V.bnd h3 fun t=>V.and fun h=>V.ret fun s _=>?_)) (V.fst (V.bnd h3 fun t=>V.and fun h=>V.ret fun s _=>?_))
 ·rw[cz (by omega) (by omega)];omega
 ·omega
def aeJ:V (fun _=>True) ((jk 4).bnd fun t=>PM.ret t.s) (fun s _=>s.length<=64/\By s):=V.bnd (QR (k:=4) (by decide)) fun t=>V.ret fun s ⟨⟨_,h1⟩,h2,h3⟩=>⟨ac6 h2 h3,h1.s⟩
structure aa9 (v:Va):Prop where
 o:kE v=true
 d:rK v
 n:v.n≠ -9223372036854775808
 I:∀i∈v.I,i≠ -9223372036854775808
def aeT (n:Int):kE (vI n)=true:=by
 show(true&&((!(!eqI n 0&&false))&&true))=true;simp
def aeQ {l:LI}(h:l.length<=16):kE ⟨4,0,[],l,[]⟩=true:=by
 show(true&&(true&&(!(false||((aO 0 (fG l)&&false)||false))&&(!(false||(aO 16 (fG l)||false))&&true))))=true;have:aO 16 (fG l)=false:=by rw[cZ];exact mρ (by unfold fG;omega)
 simp_all
def aeR {l:List LN}(h:l.length<=16)(hl:∀t∈l,t.length<=64):kE ⟨5,0,[],[],l⟩=true:=by
 show(true&&(true&&(!(false||(false||(aO 0 (fG l)&&false)))&&(!(false||(false||aO 16 (fG l)))&&l.all fun t=>!aO 64 (fG t)))))=true
 have h1:aO 16 (fG l)=false:=by rw[cZ];exact mρ (by unfold fG;omega)
 have h2:(l.all fun t=>!aO 64 (fG t))=true:=lσ.2 fun t ht=>by
  have:aO 64 (fG t)=false:=by rw[cZ];exact mρ (by have:=hl t ht;unfold fG;omega)
  simp_all
 simp_all
def Sl {s:PS}{x:LN}{k:Int}(h:s.is x=true):cY k s=bif eqI k 0 then false else bif eqI k 1 then bv x [45]else bif eqI k 2 then(bv x [116,114,117,101]||bv x [102,97,108,115,101])else bif eqI k 3 then false else bif eqI k 4 then bv x [105,110,116,115]else bv x [115,116,114,105,110,103,115]:=by
 obtain⟨h1,h2⟩:=Ý h;have hi:∀y,s.is y=bv x y:=fun y=>by
  unfold PS.is;rw[h1];rcases h2 with h2|h2<;>rw[h2]<;>rfl
 have h3:eqI (s.peek 0).k 3=false:=by rcases h2 with h2|h2<;>rw[h2]<;>rfl
 have h4:eqI (s.peek 0).k 4=false:=by rcases h2 with h2|h2<;>rw[h2]<;>rfl
 unfold cY;simp only[hi,h3,h4,Bool.or_false]
def kc5 {k:Int}(h:1<=k/\k<=5):k=1\/k=2\/k=3\/k=4\/k=5:=by omega
def CsP (s0:PS)(v:Va):Prop:=aa9 v/\∀k,1<=k/\k<=5->cY k s0=true->v.k=k
def Zs {k n:Int}(h: -9223372036854775807<=n/\n<=9223372036854775807)(hv:kE ⟨k,n,[],[],[]⟩=true):aa9 ⟨k,n,[],[],[]⟩:=⟨hv,(ZK ⟨by omega,h.2⟩).1,by grind,fun i hi=>(by cases hi)⟩
def Z_ (q:Nat)(s0:PS):V (fun s=>s=s0) (oX q) (fun v _=>CsP s0 v):=by
 refine NB (P:=CsP) (fun s {E} hs hc=>?_) (fun s h=>?_) (fun s h=>?_) (fun s1=>?_) s0
 ·obtain⟨h1,h2,h3⟩:=rr hc (by decide);refine⟨⟨aa7 (ac6 h2 h3),(R4 (k:=3) (hs.tk _ h1).s).1,by simp,fun i hi=>(by cases hi)⟩,fun k hk hf=>?_⟩
  have hi:∀y,s.is y=false:=fun y=>by unfold PS.is;rw[h3];rfl
  unfold cY at hf;simp only[hi,h3]at hf;rcases kc5 hk with rfl|rfl|rfl|rfl|rfl<;>first|rfl|(cases(show false=true from hf))
 ·refine⟨Zs (by decide) (by rfl),fun k hk hf=>?_⟩
  rw[Sl h]at hf;rcases kc5 hk with rfl|rfl|rfl|rfl|rfl<;>first|rfl|(cases(show false=true from hf))
 ·refine⟨Zs (by decide) (by rfl),fun k hk hf=>?_⟩
  rw[Sl h]at hf;rcases kc5 hk with rfl|rfl|rfl|rfl|rfl<;>first|rfl|(cases(show false=true from hf))
 ·refine V.cnd (V.pre (A:=fun _=>s1.is [105,110,116,115]=true/\True) (V.and fun h=>V.st fun _=>V.st fun _=>V.bnd (Q:=fun l _=>(l.length<=16/\∀x∈l,-9223372036854775807<=x/\x<=9223372036854775807)/\True) ((ĩ aa5).post fun _ _ g=>⟨g,trivial⟩) fun l=>V.and fun g=>V.st fun _=>V.ret fun s _=>?_) fun s h=>⟨h.1.1▸h.2,trivial⟩)
   (V.cnd (V.pre (A:=fun _=>s1.is [115,116,114,105,110,103,115]=true/\True) (V.and fun h=>V.st fun _=>V.st fun _=>V.bnd (Q:=fun l _=>(l.length<=16/\∀x∈l,x.length<=64/\By x)/\True) ((ĩ aeJ).post fun _ _ g=>⟨g,trivial⟩) fun l=>V.and fun g=>V.st fun _=>V.ret fun s _=>?_) fun s h=>⟨h.1.1.1▸h.2,trivial⟩)
   (V.pre (A:=fun _=>(eqI (s1.peek 0).k 4=false/\s1.is [116,114,117,101]=false/\s1.is [102,97,108,115,101]=false/\s1.is [105,110,116,115]=false/\s1.is [115,116,114,105,110,103,115]=false)/\True) (V.and fun h=>V.sv aa5 fun n hn=>V.ret fun s _=>?_) fun s h=>by
    grind))
  ·refine⟨⟨aeQ g.1,⟨(io (k:=4)).1.n,Gk,fun i hi=>by grind,fun t ht=>(by cases ht)⟩,by simp,fun i hi=>by grind⟩,fun k hk hf=>?_⟩
   rw[Sl h]at hf;rcases kc5 hk with rfl|rfl|rfl|rfl|rfl<;>first|rfl|(cases(show false=true from hf))
  ·refine⟨⟨aeR g.1 fun t ht=>(g.2 t ht).1,⟨(io (k:=5)).1.n,Gk,fun i hi=>(by cases hi),fun t ht=>(g.2 t ht).2⟩,by simp,fun i hi=>(by cases hi)⟩,fun k hk hf=>?_⟩
   rw[Sl h]at hf;rcases kc5 hk with rfl|rfl|rfl|rfl|rfl<;>first|rfl|(cases(show false=true from hf))
  ·refine⟨Zs hn (aeT n),fun k hk hf=>?_⟩
   obtain⟨g1,g2,g3,g4,g5⟩:=h;unfold cY at hf;simp only[g1,g2,g3,g4,g5]at hf;rcases kc5 hk with rfl|rfl|rfl|rfl|rfl<;>first|rfl|(cases(show false=true from hf))
def V.at {A:PS->Prop}{Q:PS->α->PS->Prop}(h:∀s0,V (fun s=>s=s0) p (Q s0)):V A p (fun a t=>∃s0,A s0/\Q s0 a t):=⟨fun {E s t a} e hs ok ha=>⟨s,ha,(h s).h e hs ok rfl⟩⟩
instance {q:Nat}:Ep (oX q):=by unfold oX;infer_instance
instance {q:Nat}:Kp (oX q):=by unfold oX;infer_instance
def aaa (q:Nat):V (fun _=>True) (kR q) (fun f _=>dz f=true/\rK f.init):=by
 haveI:∀k,Ep (lf fun s=>((),bif !cY k s then s.fail 13 else s)):=fun k=>wD
 refine V.st fun _=>V.sv qP fun n hn=>V.st fun _=>V.sv t_kind fun k hk=>V.st fun _=>V.bnd (V.chk (by decide)) fun _=>V.bnd (Q:=fun v _=>(aa9 v/\v.k=k)/\True) ((V.at (Z_ q)).post fun v t ⟨s0,⟨_,g1⟩,g2⟩=>⟨⟨g2.1,g2.2 k hk (by simp_all)⟩,trivial⟩) fun v=>V.and fun⟨hv,he⟩=>V.st fun _=>V.ret fun s _=>⟨?_,hv.d⟩
 unfold dz;simp only[hn.1,uP hk,he,nD,hv.o,Bool.true_and,lγ,Bool.not_eq_true',mυ];exact⟨Ps hv.n,fun i hi=>by rw[Ps fun h=>hv.I i hi h.symm];decide⟩
instance {q:Nat}:Ep (kR q):=by
 haveI:∀k,Ep (lf fun s=>((),bif !cY k s then s.fail 13 else s)):=fun k=>wD
 unfold kR;infer_instance
instance {q:Nat}:Kp (kR q):=by
 haveI:∀k,Kp (lf fun s=>((),bif !cY k s then s.fail 13 else s)):=fun k=>acF
 unfold kR;infer_instance
instance:Ep kT:=by unfold kT;infer_instance
instance:Kp kT:=by unfold kT;infer_instance
def aeI:V (fun _=>True) kT (fun p _=>(bw p.name&&eI p.kind)=true):=V.sv qP fun n hn=>V.st fun _=>V.sv t_kind fun k hk=>V.ret fun s _=>by
 rw[hn.1,uP hk];rfl
def Kt {s t:PS}(e:sb f q s=some (ns,t)):∃a u,gD td (f8 (fu q f 0) (Ek q f) q) q {s with nd:=[],ne:=0}=some (a,u)/\ns=u.nd/\t={u with tt:=ae .i64 (u.tt+(u.nd.length:Int))}:=by
 unfold sb at e;grind
instance {f q:Nat}:Ep (sb f q):=⟨fun {E s t a} e h=>by
 obtain⟨b,u,e1,-,rfl⟩:=Kt e;obtain⟨h1,h2⟩:=Ep.h e1 ⟨h.tk,h.en,h.e0,h.er⟩;exact⟨⟨h1.tk,h1.en,h1.e0,h1.er⟩,h2⟩⟩
def adt (k:Int)(ns:List No):Prop:=gz ns=true/\aO 1500 (ae .i64 (k+(ns.length:Int)))=false/\ns.length<10000/\∀x∈ns,W4 x
def adm (f q:Nat)(k:Int):V (fun s=>s.tt=k) (sb f q) (fun ns t=>adt k ns/\t.tt=ae .i64 (k+(ns.length:Int))):=⟨fun {E s t a} e hs ok h=>by
 obtain⟨b,u,e1,rfl,rfl⟩:=Kt e;obtain⟨T,h1,h2,h3,h4⟩:=(TR (L:=fun nd k=>adu nd k/\nd.length<10000) (Ň (CS q f 0) (aeW q f) q) aeY q (N:=[]) (k:=k) (l0:=[]) (Ts0:=[])).h e1 ⟨hs.tk,hs.en,hs.e0,hs.er⟩ ok ⟨rfl,trivial,trivial,rfl,h⟩;have hn:u.nd=T.fl 0:=by
  have:=h2.n;simpa only[List.nil_append,iW,lν,List.length_nil]using this
 have hw:Wf T:=h2.w.1;have hd:iD W4 T:=h2.d.1;rw[h2.t]at h3;refine⟨⟨?_,h3.1,h4,?_⟩,by rw[h2.t]⟩
 ·rw[hn];exact Ρ hw (B_ h1) (hn▸h3.2)
 ·rw[hn];exact YM (P:=W4) (fun _ _ _ _ _ h=>h) T 0 hd⟩
instance {k:Int}:NdP (fun s=>s.tt=k):=⟨fun s t h1 h2 h=>h2.trans h⟩
def adw (k:Int)(m:Me):Prop:=iy m=true/\adt k m.nodes
instance {f q:Nat}:Ep (sc f q):=by unfold sc;infer_instance
def adn (f q:Nat)(k:Int):V (fun s=>s.tt=k) (sc f q) (fun m t=>adw k m/\t.tt=ae .i64 (k+(m.nodes.length:Int))):=by
 have hres:V (fun _=>True) (cnd (fun s=>s.is [58]) (pUp.bnd fun _=>pKind) (.ret 0)) (fun r _=>(!(!eqI r 0)||eI r)=true):=
  V.cnd (V.fst (V.st fun _=>t_kind.post fun r _ h=>by rw[uP h,Bool.or_true])) (V.fst (V.ret fun _ _=>rfl))
 refine V.st fun _=>V.sv qP fun n hn=>V.st fun _=>V.sv (ĩ aeI) fun ps hp=>V.st fun _=>V.sv hres fun r hr=>V.bnd (adm f q k) fun ns=>V.and fun hb=>V.ret fun s h=>⟨⟨?_,hb⟩,h⟩
 unfold iy;simp only[hn.1,hr,Bool.true_and,lγ,Bool.not_eq_true'];exact⟨by rw[cZ];grind,lσ.2 hp.2⟩
theorem Sc {α:Type}{w:LN}{most:Nat}{p:PM α}[Ep p]:∀(q:Nat) (l:List α),Ep (hH w most p q l)
 |0,l=>lj
 |q+1,l=>by
  haveI:=fun l=>Sc (w:=w) (most:=most) (p:=p) q l
  haveI:Ep (lf fun s=>((),bif Nat.beq l.length most then s.fail 5 else s)):=wD (c:=fun _=>Nat.beq l.length most)
  unfold hH;infer_instance
instance {α:Type}{w:LN}{most q:Nat}{p:PM α}{l:List α}[Ep p]:Ep (hH w most p q l):=Sc q l
def QQ {α:Type}{w:LN}{most:Nat}{p:PM α}[Ep p]{J:List α->PS->Prop}(hp:∀l,V (J l) p (fun x t=>J (l++[x]) t)):∀(q:Nat) (l:List α),l.length<=most->V (J l) (hH w most p q l) (fun l' t=>l'.length<=most/\J l' t)
 |0,l,_=>V.none
 |q+1,l,hl=>by
  haveI:Ep (lf fun s=>((),bif Nat.beq l.length most then s.fail 5 else s)):=wD (c:=fun _=>Nat.beq l.length most)
  refine V.cnd (V.fst (V.bnd (V.chk (c:=fun _=>Nat.beq l.length most) (by decide)) fun _=>V.pre (A:=fun s=>Nat.beq l.length most=false/\J l s) (V.and fun hb=>V.bnd (V.snoc (Q:=fun l' t=>(∃x,l'=l++[x])/\J l' t) ((hp l).post fun x t h=>⟨⟨x,rfl⟩,h⟩)) fun l'=>V.and fun⟨x,hx⟩=>?_) fun s h=>⟨h.2,h.1⟩)) (V.fst (V.ret fun s h=>⟨hl,h⟩))
  have:l.length≠most:=fun h=>by simp_all
  exact QQ hp q _ (by grind)
def L9:∀(l:List Me) (m:Me) (k k1:Int),hR l k=some k1->hR (l++[m]) k=hR [m] k1
 |[],m,k,k1,h=>by
  simp only[hR,lβ]at h;simp_all
 |x::r,m,k,k1,h=>by
  simp;unfold hR at h ⊢
  cases h1:aO 1500 (ae .i64 (k+(x.nodes.length:Int)))with
  |true=>simp_all
  |false=>
   rw[h1,cond_false]at h;cases h2:iy x&&gz x.nodes with
   |false=>simp_all
   |true=>
    rw[h2,cond_true]at h;exact L9 r m _ k1 h
def õ {k:Int}(h:adw k m):hR [m] k=some (ae .i64 (k+(m.nodes.length:Int))):=by
 unfold hR;rw[h.2.2.1,h.1,h.2.1];rfl
structure AcP (a:Ac):Prop where
 d:pT a
 n:∀m∈a.methods,∀x∈m.nodes,x.v.I=[]/\x.v.L=[]
instance {f q:Nat}:Ep (oW f q):=by unfold oW;infer_instance
def Y_ (f q:Nat)(k:Int):V (fun s=>s.tt=k) (oW f q) (fun a t=>(qn a=true/\AcP a)/\hR a.methods k=some t.tt):=by
 have hf:=QQ (w:=[115,116,97,116,101]) (most:=8) (p:=kR q) (J:=fun l s=>(∀f∈l,dz f=true/\rK f.init)/\s.tt=k) (fun l=>V.and fun hl=>(V.both ((aaa q).pre fun _ _=>trivial) V.kp).post fun x t h=>⟨fun f hf=>by
  grind,h.2⟩) q [] (Nat.zero_le _)
 have hm:=QQ (w:=[109,101,116,104,111,100]) (most:=16) (p:=sc f q) (J:=fun l s=>(∀m∈l,m.nodes.length<10000/\∀x∈m.nodes,W4 x)/\hR l k=some s.tt) (fun l=>V.and fun hl=>V.pre (A:=fun s=>∃k1,hR l k=some k1/\s.tt=k1) (V.ex fun k1=>V.and fun hk=>(adn f q k1).post fun x t h=>⟨fun m hm=>by
  rcases mγ.1 hm with g|g
  ·grind
  ·rw[List.mem_singleton.1 g];exact h.1.2.2.2,by rw[L9 l x k k1 hk,õ h.1,h.2]⟩) fun s h=>⟨s.tt,h,rfl⟩) q [] (Nat.zero_le _)
 refine V.st fun _=>V.sv qP fun n hn=>V.st fun _=>V.bnd (hf.pre fun s h=>⟨fun f hf=>(by cases hf),h⟩) fun fs=>V.and fun hfl=>V.and fun hfs=>V.bnd (hm.pre fun s h=>⟨fun m hm=>(by cases hm),by rw[h];rfl⟩) fun ms=>V.and fun hml=>V.and fun hms=>?_
 haveI:NdP (fun s=>hR ms k=some s.tt):=⟨fun s t h1 h2 h=>by simp_all⟩
 refine V.st fun _=>V.ret fun s h=>⟨⟨?_,⟨fun f hf=>(hfs f hf).2,fun m hm=>⟨by grind,fun x hx=>((hms m hm).2 x hx).1⟩⟩,fun m hm x hx=>((hms m hm).2 x hx).2⟩,h⟩
 unfold qn;simp only[hn.1,Bool.true_and,lγ,Bool.not_eq_true',mυ];exact⟨by rw[cZ];grind,by rw[cZ];grind,fun f hf=>by simp_all⟩
def adl (f q:Nat)(s0:PS):V (fun s=>s=s0) (oW f q) (fun _ _=>s0.is [97,99,116,111,114]=true):=⟨fun {E s t a} e hs ok h=>by
 subst h;obtain⟨b,u,e1,e2⟩:=aa e;have hu:Es E u:=(Ep.h e1 hs).1;have ho:u.ok=true:=(Ep.h e2 hu).2 ok;obtain⟨-,e1⟩:=bb e1;injection e1 with _ e1;subst e1;unfold PS.exp at ho;cases hi:s.is [97,99,116,111,114]with
 |true=>rfl
 |false=>rw[hi,cond_false,eh s (by decide)]at ho;cases ho⟩
def NH:∀(l:List Ac) (a:Ac) (k k1:Int),pg l k=some k1->pg (l++[a]) k=pg [a] k1
 |[],a,k,k1,h=>by
  simp only[pg,lβ]at h;simp_all
 |x::r,a,k,k1,h=>by
  simp;unfold pg at h ⊢
  cases h1:qn x with
  |false=>simp_all
  |true=>
   rw[h1,cond_true]at h;cases h2:hR x.methods k with
   |none=>simp_all
   |some k2=>
    rw[h2]at h;exact NH r a k2 k1 h
theorem Pn {n f q:Nat}:∀(m:Nat) (l:List Ac),Ep (gS n f q m l)
 |0,l=>lj
 |m+1,l=>by
  haveI:=fun l=>Pn (n:=n) (f:=f) (q:=q) m l
  haveI:Ep (lf fun s=>((),bif s.is [97,99,116,111,114]&&Nat.beq l.length 8 then s.fail 5 else s)):=wD (c:=fun s=>s.is [97,99,116,111,114]&&Nat.beq l.length 8)
  unfold gS;infer_instance
def TyJ (l:List Ac)(s:PS):Prop:=(l.length<=8/\∀a∈l,AcP a)/\pg l 0=some s.tt
def Tw {n f q:Nat}:∀(m:Nat) (l:List Ac),V (TyJ l) (gS n f q m l) TyJ
 |0,l=>V.none
 |m+1,l=>by
  haveI:=fun l=>Pn (n:=n) (f:=f) (q:=q) m l
  haveI:Ep (lf fun s=>((),bif s.is [97,99,116,111,114]&&Nat.beq l.length 8 then s.fail 5 else s)):=wD (c:=fun s=>s.is [97,99,116,111,114]&&Nat.beq l.length 8)
  refine V.cok (V.cnd (V.fst (V.bnd (V.chk (c:=fun s=>s.is [97,99,116,111,114]&&Nat.beq l.length 8) (by decide)) fun _=>V.bnd (V.snoc (Q:=TyJ) ?_) fun l'=>Tw m l')) (V.fst (V.ret fun s h=>h)));refine(V.both (V.at (A:=fun s=>TyJ l s/\(s.is [97,99,116,111,114]&&Nat.beq l.length 8)=false) (adl f q)) (V.pre (A:=fun s=>(l.length<=8/\∀a∈l,AcP a)/\∃k,pg l 0=some k/\s.tt=k) (V.and fun hl=>V.ex fun k=>V.and fun hk=>(Y_ f q k).post (R:=fun a t=>(∀x∈l++[a],AcP x)/\pg (l++[a]) 0=some t.tt) fun a t h=>⟨fun x hx=>?_,?_⟩) fun s h=>⟨h.1.1,s.tt,h.1.2,rfl⟩)).post fun a t ⟨⟨s0,⟨g1,g2⟩,g3⟩,g4,g5⟩=>⟨⟨?_,g4⟩,g5⟩
  ·grind
  ·rw[NH l a 0 k hk];unfold pg;rw[h.1.1,cond_true,h.2];rfl
  ·have:l.length≠8:=fun h=>by simp_all
   have:=g1.1.1;grind
variable {p:List Ac}
def Wm {tk:List Tk}{en:Int}{a e:Int}(hk:∀t∈tk,TkD en t)(hen:0<=en)(h:nf tk en f q=some (p,a,e)):(e≠0/\p=[]/\0<=a/\a<=en)\/(e=0/\hZ p=true/\∀x∈p,AcP x):=by
 have h0:Es en ⟨tk,0,en,0,0,0,0,[]⟩:=⟨hk,rfl,hen,fun h=>by cases h⟩
 unfold nf at h;cases h1:gS tk.length f q q [] ⟨tk,0,en,0,0,0,0,[]⟩with
 |none=>rw[h1]at h;cases h
 |some r=>
  obtain⟨l,s⟩:=r;rw[h1]at h;simp only[lβ]at h;haveI:=Pn (n:=tk.length) (f:=f) (q:=q) q [];obtain⟨h2,-⟩:=Ep.h h1 h0;cases hk:s.ok with
  |false=>
   rw[hk]at h;simp only[Bool.not_false,cond_true,lψ]at h;obtain⟨rfl,rfl,rfl⟩:=h;have:=h2.er hk;refine .inl ⟨fun he=>?_,rfl,this⟩
   unfold PS.ok at hk;rw[he]at hk;cases hk
  |true=>
   rw[hk]at h;simp only[Bool.not_true,cond_false,lψ]at h;obtain⟨rfl,rfl,rfl⟩:=h;obtain⟨⟨g1,g2⟩,g3⟩:=(Tw (n:=tk.length) (f:=f) (q:=q) q []).h h1 h0 hk ⟨⟨Nat.zero_le _,fun a ha=>by cases ha⟩,rfl⟩
   refine .inr ⟨rfl,?_,g2⟩;unfold hZ;rw[g3,cZ,mρ (by omega)];rfl
def acS {s:LN}{v:Int}(h:Mi s=some v):v<=9223372036854775807:=by
 unfold Mi at h;cases h1:Lib.parseIntB 64 (DT s)with
 |ok w=>
  rw[h1]at h;simp at h;have:=(Lib.parseIntB_bounds h1).2;omega
 |_=>simp_all
def aeO (t out:LN)(i:Nat):(txtS t out i).1.n=0:=by
 fun_induction txtS t out i<;>simp_all [rH,W1]
def aeK (c:Nat)(r:LN):(dD (c::r)).1.n<=9223372036854775807:=by
 simp only[dD];cases aO 0 (cD (c::r):Int)with
 |true=>
  cases aO 32 (cD (c::r):Int)with
  |true=>exact(by decide:(0:Int)<=9223372036854775807)
  |false=>grind
 |false=>
  rw[cond_false];cases dX (c:Int)with
  |true=>
   unfold BU;cases h:Mi ((c::r).take (dV dX (c::r)))with
   |none=>exact(by decide:(0:Int)<=9223372036854775807)
   |some v=>
    cases(aO 1 (dV dX (c::r):Int)&&Nat.beq ((c::r).headD 0) 48)with
    |true=>exact(by decide:(0:Int)<=9223372036854775807)
    |false=>exact acS h
  |false=>
   rw[cond_false];cases Nat.beq c 34 with
   |true=>
    rw[cond_true,aeO];decide
   |false=>
    cases eqI (pf (c::r):Int) 0<;>exact(by decide:(0:Int)<=9223372036854775807)
def TE {E:Nat}:∀(q:Nat) (t:LN) (i:Nat) (acc:List Tk),By t->(∀x∈acc,TkD (E:Int) x)->i+t.length<=E->(∀x∈(Ft q t i acc).1,TkD (E:Int) x)/\0<=(Ft q t i acc).2.1/\(Ft q t i acc).2.1<=(E:Int)
 |0,t,i,acc,hb,ha,hi=>⟨fun x hx=>(by cases hx),Int.le_refl _,Int.natCast_nonneg _⟩
 |q+1,[],i,acc,hb,ha,hi=>⟨ha,Int.le_refl _,Int.natCast_nonneg _⟩
 |q+1,c::r,i,acc,hb,ha,hi=>by
  have h:=It c r hb;unfold Ft;cases he:eqI (dD (c::r)).2.2 0 with
  |false=>grind
  |true=>
   rw[bO,lδ]at he;have hs:=tq false ((c::r).drop (dD (c::r)).2.1.toNat);refine TE q _ _ _ (hb.drop _) (fun x hx=>?_) ?_
   ·rcases mγ.1 hx with h1|h1
    ·simp_all
    ·rw[List.mem_singleton]at h1;rw[h1];exact⟨aeK c r,h.1,Int.natCast_nonneg _,Int.ofNat_le.2 (by omega)⟩
   all_goals grind
def Ĵ {s:LN}(hb:By s):(∀x∈(jf s).1,TkD (s.length:Int) x)/\0<=(jf s).2.1/\(jf s).2.1<=(s.length:Int):=by
 unfold jf;cases aO 6000 (s.length:Int)with
 |true=>simp
 |false=>
  have:=tq false s;exact TE _ _ _ _ (hb.drop _) (fun x hx=>(by cases hx)) (by simp_all)
def QI {s:LN}{a e:Int}(hb:By s)(h:jQ s f q=some (p,a,e)):(e≠0/\p=[]/\0<=a/\a<=(s.length:Int))\/(e=0/\hZ p=true/\∀x∈p,AcP x):=by
 obtain⟨h1,h2⟩:=Ĵ hb;unfold jQ at h;cases he:eqI (jf s).2.2 0 with
 |false=>
  rw[he]at h;rw[bO,lρ]at he;simp_all
 |true=>
  rw[he]at h;exact Wm h1 (Int.natCast_nonneg _) h
mutual
def SH:∀(t:Tr) (b:Nat),∀x∈t.fl b,x.kids.length<t.sz
 | .n op nm v ks,b,x,hx=>by
  simp only[Tr.fl,mγ,List.mem_singleton]at hx;simp only[Tr.sz];rcases hx with hx|rfl
  ·have:=LA ks b x hx;omega
  ·show(eJ b ks).length<_;rw[oZ];have:=Ir ks;omega
def LA:∀(l:List Tr) (b:Nat),∀x∈iW l b,x.kids.length<eR l
 |[],b,x,hx=>by cases hx
 |t::r,b,x,hx=>by
  simp only[iW,mγ]at hx;simp only[eR];rcases hx with hx|hx
  ·have:=SH t b x hx;omega
  ·have:=LA r _ x hx;omega
end
def aeG (hv:hZ p=true)(h:∀a∈p,AcP a):p.length<1501/\∀a∈p,SzA a:=by
 obtain⟨h8,hall⟩:=zI hv fun a ha=>(h a ha).d
 refine⟨by omega,fun a ha=>?_⟩
 obtain⟨h1,h2⟩:=hall a ha;unfold qn at h1;simp only[lγ,Bool.not_eq_true',cZ,lρ,mυ]at h1;obtain⟨v1,v2,v3,v4⟩:=h1;refine⟨by omega,by omega,fun f hf=>?_,fun m hm=>?_⟩
 ·have hfv:=v4 f hf;simp at hfv;unfold dz at hfv;simp at hfv;obtain⟨⟨a1,a2,a3,a4⟩,-⟩:=ry hfv.2.2.2.1;exact⟨by omega,by omega⟩
 ·obtain⟨m1,m2,m3⟩:=h2 m hm;unfold iy at m1;simp only[lγ,Bool.not_eq_true',cZ,lρ]at m1;obtain⟨t,t1,-,t3,-⟩:=wv m2;refine⟨by omega,by omega,fun x hx=>?_⟩
  obtain⟨e1,e2⟩:=(h a ha).n m hm x hx;refine⟨by simp_all,by simp_all,?_⟩
  have:=SH t 0 x (t1▸hx);omega
def NT {m:Nat}(src:LN)(hb:By src)(hm:800000<=m)(ha:Ω m 7 [] []=some (pB true,[])):Ω (m+1) 4 [pS src] []=some (pB true,[]):=by
 apply OG m src;unfold zP;have e0:∀l:LD,(bL.mk l).e= .agg [.slice 3 l]:=fun _=>rfl
 simp only[evC_known ha,aE,aj,ah,Bool.not_true,aG];cases hl:aO 3000 (src.length:Int)with
 |true=>rfl
 |false=>
  rw[cZ,lρ]at hl;obtain⟨⟨p,at1,e⟩,hs⟩:=Cy src hb (by omega) (f:=42020) (q:=6004) (by omega) (by omega);have h1:=evC_known (vY (m:=m) (by omega) (by omega) (by omega) hb hs);simp only[aG,h1,MU,aL,iR,aE,dPg,aW,ah,e0];rcases QI hb hs with⟨he,rfl,a1,a2⟩|⟨rfl,hv,hA⟩
  ·simp only[Ps he,Bool.not_false,az,ji a1,ji a2];rfl
  ·obtain⟨hl1,hz⟩:=aeG hv hA;have hB:∀a∈p,SzB 1501 a:=fun a ha=>adj (hz a ha)
   have hd:=fun a ha=>(hA a ha).d
   have hF:=evC_known (TU (m:=m) p hB hv hd (by omega));have hV:Ω m 9 [.p (.agg [.slice 3 (p.map Ac.e)])] []=some (pB (hZ p),[]):=by
    obtain⟨n,rfl⟩:∃n,m=n+1511:=⟨m - 1511,by omega⟩
    exact IN p hB (by omega)
   have hV:=evC_known hV;obtain⟨t1,t2⟩:=Fa hv hd;simp only[nD,Bool.not_true,aG,hF,aE,fo,ah];cases h6:aO 6000 ((av (fE p)).length:Int)with
   |true=>
    have hs2:jQ (av (fE p)) 42020 6004=some ([],0,5):=by unfold jQ jf;rw[h6];rfl
    have hY:=evC_known (vY (m:=m) (by omega) (by omega) (by omega) t1 hs2);simp only[hY,MU,aL,iR,aE,dPg,aW,ah,hV,hv,aj,az]
   |false=>
    rw[cZ,lρ]at h6;have hsrc:=Im hv hd (by omega);have hY:=evC_known (vY (m:=m) (by omega) (by omega) (by omega) t1 hsrc);have hSa:=evC_known (Ŝ (m:=m) p (adk hl1 hz) (by omega) (by unfold bX;omega));simp only[hY,e0,MU,aL,iR,aE,dPg,aW,ah,hV,hv,aj,az,aG,nD,hSa,eg]
def run_SyntaxFixed:∀xs,Pw (rR prog0 (eK prog0 Bn 12)) [9] xs->∃N,Ω N 4 (xs.map .p) []=some (pB true,[]):=by
 intro xs h;obtain⟨x1,r1,rfl,h1,h⟩:=h.cons_inv;obtain rfl:=h.nil_inv;obtain⟨s,rfl,hs⟩:=adO (n:=11) h1;exact⟨800001,NT s hs (Nat.le_refl _) (œ (n:=799999))⟩
end
end Go.Ab
