import Derived.Test.YtbgddkffhndjcaaGreatDoorKg2
import Derived.Test.YtbgddkffhndjcaaGreatDoorOg3
import Derived.Test.YtbgddkffhndjcaaGreatDoorKg1
set_option linter.all false
namespace Go.Ab
open Go
set_option maxRecDepth 100000
noncomputable section
def bd (a b:List LN):bQ (a++b)=bQ a++bQ b:=List.map_append ..
def gO (a:LN)(b:List LN):bQ (a::b)=bD a::bQ b:=rfl
def QV:bD [44]=sy [44]:=by kernel_rfl
def Fv:bD [40]=sy [40]:=by kernel_rfl
def Fu:bD [41]=sy [41]:=by kernel_rfl
def wA:∀(i:Nat) (r:Ws),bU (i+1) r=bU 1 r
 |_,[]=>rfl
 |i,w::r=>by
  show[44]::(w++bU (i+2) r)=[44]::(w++bU 2 r);rw[wA (i+1) r,wA 1 r]
def AZ (w:List LN)(r:Ws):bU 1 (w::r)=[44]::(w++bU 1 r):=by
 show[44]::(w++bU 2 r)=_;rw[wA 1 r]
def wz (w:List LN)(r:Ws):bU 0 (w::r)=w++bU 1 r:=rfl
variable {α:Type}
def ZO {l r:List α}{w:α}{i:Nat}(h:l.drop i=w::r):∃h:i<l.length,l[i]=w/\l.drop (i+1)=r:=by
 have hi:i<l.length:=by
  rcases lυ i l.length with h'|h'
  ·exact h'
  ·rw[List.drop_of_length_le h']at h;cases h
 rw[lι hi]at h;injection h with h1 h2;exact⟨hi,h1,h2⟩
def K0 {α:Type}{begins:PS->Bool}{elem:PM α}{most:Nat}(ws:Ws)(J:Nat->PS->List α->Prop)
  (hE:∀(i:Nat) (h:i<ws.length) (s u:PS) (l l':List α) (R:List Tk) (t1:Tk),Nx s (bQ ws[i]++t1::R)->J i s l->(t1=sy [44]\/t1=sy [41])->snoc elem l s=some (l',u)->J (i+1) u l'/\Nx u (t1::R))
  (hU:∀i s l,J i s l->J i s.up l)
  (hB:∀(i:Nat) (h:i<ws.length) (s:PS) (R:List Tk),Nx s (bQ ws[i]++R)->begins s=true)
  (hM:ws.length<=most):∀(q i:Nat) (w:List LN) (r:Ws) (s u:PS) (l l':List α) (R:List Tk),ws.drop i=w::r->Nx s (bQ (w++bU 1 r)++sy [41]::R)->J i s l->sN begins (snoc elem) most q i l s=some (l',u)->J ws.length u l'/\Nx u (sy [41]::R)
 |0,i,w,r,s,u,l,l',R,hd,hn,hj,e=>by cases e
 |q+1,i,w,r,s,u,l,l',R,hd,hn,hj,e=>by
  obtain⟨hi,rfl,hd'⟩:=ZO hd;rcases bT e with⟨-,e⟩|⟨k,-⟩;case inr=>rw[hn.ok]at k;cases k
  obtain⟨_,s1,e1,e⟩:=aa e;have hs1:s1=s:=by
   obtain⟨-,e1⟩:=bb e1;injection e1 with _ e1;have hb:=hB i hi s _ (by rw[bd,lε]at hn;exact hn);have hm:Nat.beq i most=false:=by
    cases hq:Nat.beq i most with
    |false=>rfl
    |true=>have:=lη hq;omega
   rw[hb,hm]at e1;exact e1.symm
  rw[hs1]at e;obtain⟨l1,s2,e2,e⟩:=aa e;cases r with
  |nil=>
   rw[show bU 1 []=[]from rfl,lν]at hn;obtain⟨hj2,hn2⟩:=hE i hi _ _ _ _ R _ hn hj (.inr rfl) e2;obtain⟨-,e⟩:=aD e;rcases e with⟨k,-⟩|⟨-,e⟩;case inl=>rw[hn2.isA,show eB (sy [41]) [44]=false by kernel_rfl]at k;cases k
   obtain⟨rfl,rfl⟩:=au e;have hl:ws.length=i+1:=by
    have:=congrArg List.length hd';rw[lχ,List.length_nil]at this;omega
   rw[hl];exact⟨hj2,hn2⟩
  |cons w2 r2=>
   rw[AZ,bd,gO,QV,lε]at hn;obtain⟨hj2,hn2⟩:=hE i hi _ _ _ _ _ _ hn hj (.inl rfl) e2;obtain⟨-,e⟩:=aD e;rcases e with⟨-,e⟩|⟨k,-⟩;case inr=>rw[hn2.isA,show eB (sy [44]) [44]=true by kernel_rfl]at k;cases k
   obtain⟨_,s3,e3,e⟩:=aa e;obtain⟨-,e3⟩:=bb e3;injection e3 with _ e3;subst e3;exact K0 ws J hE hU hB hM q (i+1) w2 r2 _ _ _ _ R hd' hn2.up (hU _ _ _ hj2) e
variable {q:Nat}
def zm {begins:PS->Bool}{elem:PM α}{most:Nat}(ws:Ws)(J:Nat->PS->List α->Prop)(hE:∀(i:Nat) (h:i<ws.length) (s u:PS) (l l':List α) (R:List Tk) (t1:Tk),Nx s (bQ ws[i]++t1::R)->J i s l->(t1=sy [44]\/t1=sy [41])->snoc elem l s=some (l',u)->J (i+1) u l'/\Nx u (t1::R))(hU:∀i s l,J i s l->J i s.up l)(hB:∀(i:Nat) (h:i<ws.length) (s:PS) (R:List Tk),Nx s (bQ ws[i]++R)->begins s=true/\s.is [41]=false)(hM:ws.length<=most){s u:PS}{l':List α}{R:List Tk}(hn:Nx s (bQ (bU 0 ws)++sy [41]::R))(hj:J 0 s [])(e:EC begins (snoc elem) most q [] s=some (l',u)):J ws.length u l'/\Nx u (sy [41]::R):=by
 unfold EC at e;obtain⟨-,e⟩:=aD e;cases ws with
 |nil=>
  rcases e with⟨-,e⟩|⟨k,-⟩;case inr=>rw[Nx.isA (show Nx s (sy [41]::R)from hn),show eB (sy [41]) [41]=true by kernel_rfl]at k;cases k
  obtain⟨rfl,rfl⟩:=au e;exact⟨hj,hn⟩
 |cons w r=>
  rw[wz]at hn;rcases e with⟨k,-⟩|⟨-,e⟩;case inl=>
   have:=(hB 0 (by simp) s _ (by rw[bd,lε]at hn;exact hn)).2;rw[this]at k;cases k
  exact K0 (w::r) J hE hU (fun i h s R hn=>(hB i h s R hn).1) hM q 0 w r s u [] l' R rfl hn hj e
def uz:∀(l:List Tr) (t:Tr) (b:Nat),iW (l++[t]) b=iW l b++t.fl (b+eR l)
 |[],t,b=>by simp only[List.nil_append,iW,eR,lν,Nat.add_zero]
 |a::r,t,b=>by simp only[List.cons_append,iW,eR,uz r t,lε,Nat.add_assoc]
def vm:∀(l:List Tr) (t:Tr) (b:Nat),eJ b (l++[t])=eJ b l++[((b+eR l+t.sz - 1:Nat):Int)]
 |[],t,b=>by simp only[List.nil_append,eJ,eR,Nat.add_zero]
 |a::r,t,b=>by simp only[List.cons_append,eJ,eR,vm r t,Nat.add_assoc]
def iz (l:List α)(i:Nat)(h:i<l.length):l.take (i+1)=l.take i++[l[i]]:=by
 rw[List.take_add_one,lθ h];rfl
def QY:∀(l:List Tr) (i:Nat) (h:i<(wL l).length) (h':i<l.length),(wL l)[i]=l[i].w
 |t::r,0,_,_=>rfl
 |t::r,i+1,h,h'=>by
  simp only[wL,List.getElem_cons_succ];exact QY r i _ _
def BR (t:Tk):Bool:=bc t&&!(eqI t.k 5&&bv t.s [40])
def PT (t:Tr):Prop:=∀(q f:Nat) (s u:PS) (v:Int) (R:List Tk) (t1:Tk),Nx s (bQ t.w++t1::R)->BR t1=true->0<=s.ne->s.ne+hT t<=24->fD (fu q f 0) q s=some (v,u)->v=((s.nd.length+t.sz - 1:Nat):Int)/\xF s u (t.fl s.nd.length) (t1::R)
def EX (t:Tr):Prop:=∀(q f L:Nat) (s u:PS) (v:Int) (R:List Tk) (t1:Tk),L<=5->Nx s (bQ t.w++t1::R)->BR t1=true->Tq t1=true->0<=s.ne->s.ne+hT t<=24->fu q f L s=some (v,u)->v=((s.nd.length+t.sz - 1:Nat):Int)/\xF s u (t.fl s.nd.length) (t1::R)
def Bh {t:Tr}(hw:Wf t)(hv:iD eV t)(he:bo t.op=true){s:PS}{R:List Tk}(h:Nx s (bQ t.w++R)):s.is [45]=false/\s.is [33]=false/\s.is [41]=false/\s.begins=true:=by
 obtain⟨t0,r,h1,h2⟩:=Sn hw hv he;rw[h1]at h;exact Η h2 h
def Lh {t:Tr}(hw:Wf t)(hv:iD eV t)(he:bo t.op=true)(hP:PT t):EX t:=by
 intro q f L s u v R t1 hL hn h1 h2 h0 h24 e;obtain⟨a1,a2,-,-⟩:=Bh hw hv he hn;obtain⟨f0,v0,u0,e0,g⟩:=Hp hL a1 a2 e;obtain⟨rfl,hf⟩:=hP q f0 s u0 v0 R t1 hn h1 h0 h24 e0;obtain⟨rfl,rfl⟩:=g fun J _ hJ=>Io h2 hf.nx J hJ
 exact⟨rfl,hf⟩
def KG {t1:Tk}(h:t1=sy [44]\/t1=sy [41]):BR t1=true/\Tq t1=true:=by
 rcases h with rfl|rfl
 ·exact⟨by kernel_rfl,by kernel_rfl⟩
 ·exact⟨by kernel_rfl,by kernel_rfl⟩
variable {f:Nat}
def Kl {s u:PS}{l:LI}{R:List Tk}(ks:List Tr)(hk:∀k∈ks,Wf k/\iD eV k/\bo k.op=true/\EX k)(h16:ks.length<=16)(hn:Nx s (bQ (bp (wL ks))++R))(h0:0<=s.ne)(h24:s.ne<24)(hh:∀k∈ks,s.ne+1+hT k<=24)(e:sa (fu q f 0) q s=some (l,u)):l=eJ s.nd.length ks/\xF s u (iW ks s.nd.length) R:=by
 unfold bp at hn;rw[gO,bd,gO,Fv,Fu]at hn;obtain⟨_,s1,e1,e⟩:=aa e;obtain⟨l2,s2,e2,e⟩:=aa e;obtain⟨_,s3,e3,e⟩:=aa e;obtain⟨rfl,rfl⟩:=au e;rw[List.cons_append,lε]at hn;obtain⟨hn1,hm1⟩:=oT hn (by kernel_rfl) h0 h24 e1;have hlen:=CO ks;have key:=zm (wL ks) (fun i w l=>w.ne=s.ne+1/\w.tt=s.tt/\w.nd=s.nd++iW (ks.take i) s.nd.length/\l=eJ s.nd.length (ks.take i))
  (fun i h w z l l' R' t1 hw hj ht ee=>by
   obtain⟨j1,j2,j3,j4⟩:=hj;have hi:i<ks.length:=by omega
   obtain⟨k1,k2,k3,k4⟩:=hk _ (lπ hi);have hh1:=hh _ (lπ hi);rw[QY ks i h hi]at hw;obtain⟨x,ee2,-,rfl⟩:=cf ee;obtain⟨c1,c2⟩:=KG ht;obtain⟨rfl,hf⟩:=k4 q f 0 w z x R' t1 (by omega) hw c1 c2 (by omega) (by omega) ee2;have hwl:w.nd.length=s.nd.length+eR (ks.take i):=by rw[j3,lα,iX]
   refine⟨⟨hf.ne.trans j1,hf.tt.trans j2,?_,?_⟩,hf.nx⟩
   ·rw[hf.nd,j3,iz ks i hi,uz,<-j3,hwl,j3,lε]
   ·rw[iz ks i hi,vm,j4,hwl])
  (fun i w l hj=>hj)
  (fun i h w R' hw=>by
   have hi:i<ks.length:=by omega
   obtain⟨k1,k2,k3,k4⟩:=hk _ (lπ hi);rw[QY ks i h hi]at hw;obtain⟨-,-,b3,b4⟩:=Bh k1 k2 k3 hw;exact⟨b4,b3⟩)
  (by omega) hn1 ⟨hm1.ne,hm1.tt,by rw[hm1.nd];simp only[List.take_zero,iW,lν],by simp only[List.take_zero,eJ]⟩ e2
 obtain⟨⟨j1,j2,j3,j4⟩,hn2⟩:=key;obtain⟨hn3,hm3⟩:=mb hn2 (by kernel_rfl) (by omega) (by omega) e3;have ht:ks.take (wL ks).length=ks:=by rw[hlen,List.take_length]
 rw[ht]at j3 j4;exact⟨j4,hn3,by have:=hm3.ne;omega,hm3.nd.trans j3,hm3.tt.trans j2⟩
variable {nm:LN}
def GV {op:Int}{v:Va}{ks:List Tr}{k:Tr}(h:k∈ks):Dz op+hT k<=hT (.n op nm v ks):=by
 simp only[hT];have:=Sw (op:=op) ks 0 k h;omega
def ĵ {ks:List Tr}(h:ks.length=1):∃a,ks=[a]:=by
 match ks,h with
 |[a],_=>simp
def aeL {ks:List Tr}(h:ks.length=2):∃a b,ks=[a,b]:=by
 match ks,h with
 |[a,b],_=>simp
def tkB (a b:Tk):Bool:=eqI a.k b.k&&(bv a.s b.s&&(eqI a.n b.n&&eqI a.a b.a))
def QS {a b:Tk}(h:tkB a b=true):a=b:=by
 unfold tkB at h;simp only[bO,ec,lδ]at h;cases a;simp_all
def Ķ:(([[45],[33]]++binO).all fun o=>tkB (bD o) (sy o)&&(BR (sy o)&&(W_ o&&!bv o [40])))=true:=by rfl
def Iw {o:LN}(h:o∈[[45],[33]]++binO):bD o=sy o/\BR (sy o)=true:=by
 have:=lσ.1 Ķ o h;simp at this;exact⟨QS this.1,this.2.1⟩
def b_ {o:LN}(h:o∈[[45],[33]]++binO):eB (sy o) o=true:=by
 have:=lσ.1 Ķ o h;simp at this;unfold eB;rw[show bc (sy o)=true from this.2.2.1];simp only[ec,Bool.true_and];rfl
def ac2 {s u:PS}{v:Int}{k:Tr}{R:List Tk}(hnm:nm=[45]\/nm=[33])(hk:EX k)(hn:Nx s (sy nm::(bQ k.w++sy [41]::R)))(h0:0<=s.ne)(h24:s.ne+1+hT k<=24)(e:fu q f 0 s=some (v,u)):v=((s.nd.length+k.sz:Nat):Int)/\xF s u (k.fl s.nd.length++[⟨4,nm,vz,[((s.nd.length+k.sz - 1:Nat):Int)]⟩]) (sy [41]::R):=by
 have hmem:nm∈[[45],[33]]++binO:=by grind
 obtain⟨f1,v1,u1,e1,g⟩:=SQ 5 0 f (by omega) e;have main:v1=((s.nd.length+k.sz:Nat):Int)/\xF s u1 (k.fl s.nd.length++[⟨4,nm,vz,[((s.nd.length+k.sz - 1:Nat):Int)]⟩]) (sy [41]::R):=by
  cases f1 with
  |zero=>cases e1
  |succ f1=>
  replace e1:y3 (fu q f1 5) (fu q f1 6) s=some (v1,u1):=e1;have eU:pUn nm (fu q f1 5) s=some (v1,u1):=by
   obtain⟨-,e1⟩:=aD e1;rcases hnm with rfl|rfl
   ·rcases e1 with⟨-,e1⟩|⟨k,-⟩
    ·exact e1
    ·rw[hn.isA,show eB (sy [45]) [45]=true by rfl]at k;cases k
   ·rcases e1 with⟨k,-⟩|⟨-,e1⟩;case inl=>rw[hn.isA,show eB (sy [33]) [45]=false by rfl]at k;cases k
    obtain⟨-,e1⟩:=aD e1;rcases e1 with⟨-,e1⟩|⟨k,-⟩
    ·exact e1
    ·rw[hn.isA,show eB (sy [33]) [33]=true by rfl]at k;cases k
  obtain⟨_,s1,c1,eU⟩:=aa eU;obtain⟨x,s2,c2,eU⟩:=aa eU;obtain⟨_,s3,c3,eU⟩:=aa eU;obtain⟨hn1,hm1⟩:=oT hn (b_ hmem) h0 (by omega) c1;rcases bT c2 with⟨-,c2⟩|⟨k,-⟩;case inr=>rw[hn1.ok]at k;cases k
  have hne:=hm1.ne;obtain⟨rfl,hf⟩:=hk q f1 5 s1 s2 x R _ (by omega) hn1 (by rfl) (by rfl) (by omega) (by omega) c2;have hne2:=hf.ne;obtain⟨hn3,hm3⟩:=acU hf.nx (by omega) (by omega) c3;obtain⟨rfl,hf4⟩:=gu hn3 eU;have hl:s3.nd.length=s.nd.length+k.sz:=by rw[hm3.nd,hf.nd,lα,gB,hm1.nd]
  refine⟨by rw[hl],hf4.nx,by have:=hf4.ne;have:=hm3.ne;omega,?_,?_⟩
  ·rw[hf4.nd,hm3.nd,hf.nd,hm1.nd,lε]
  ·rw[hf4.tt,hm3.tt,hf.tt,hm1.tt]
 obtain⟨rfl,hf⟩:=main;obtain⟨rfl,rfl⟩:=g fun J _ hJ=>Io (by rfl) hf.nx J (by omega)
 simp_all
def ac3 {s u:PS}{v:Int}{k l:Tr}{R:List Tk}(hnm:nm∈binO)(hwk:Wf k)(hvk:iD eV k)(hek:bo k.op=true)(hk:PT k)(hl:EX l)(hn:Nx s (bQ k.w++sy nm::(bQ l.w++sy [41]::R)))(h0:0<=s.ne)(hk24:s.ne+hT k<=24)(hl24:s.ne+hT l<=24)(e:fu q f 0 s=some (v,u)):
  v=((s.nd.length+k.sz+l.sz:Nat):Int)/\xF s u (k.fl s.nd.length++(l.fl (s.nd.length+k.sz)++[⟨5,nm,vz,[((s.nd.length+k.sz - 1:Nat):Int),((s.nd.length+k.sz+l.sz - 1:Nat):Int)]⟩])) (sy [41]::R):=by
 have hmem:nm∈[[45],[33]]++binO:=List.mem_append_right _ hnm;obtain⟨a1,a2,-,-⟩:=Bh hwk hvk hek hn;obtain⟨f1,x,w1,e1,g⟩:=Ν hnm a1 a2 e;obtain⟨rfl,hf⟩:=hk q f1 s w1 x _ _ hn (Iw hmem).2 h0 hk24 e1;obtain⟨s2,f2,y,w2,z,w3,e2,e3,e4,g⟩:=g _ hf.nx;obtain⟨hn2,hm2⟩:=kx hf.nx e2;have i1:=hf.ne;have i2:=hm2.ne;obtain⟨rfl,hf3⟩:=hl q f2 (ò nm+1) s2 w2 y R _ (by have:=(Ks hnm).1;omega) hn2 (by rfl) (by rfl) (by omega) (by omega) e3;obtain⟨rfl,hf4⟩:=gu hf3.nx e4;obtain⟨rfl,rfl⟩:=g fun J hJ=>Io (by rfl) hf4.nx J hJ
 have hl1:s2.nd.length=s.nd.length+k.sz:=by rw[hm2.nd,hf.nd,lα,gB]
 have hl2:w2.nd.length=s.nd.length+k.sz+l.sz:=by rw[hf3.nd,lα,gB,hl1]
 refine⟨by rw[hl2],hf4.nx,by have:=hf4.ne;have:=hf3.ne;omega,?_,?_⟩
 ·rw[hf4.nd,hf3.nd,hl1,hm2.nd,hf.nd,lε,lε]
 ·rw[hf4.tt,hf3.tt,hm2.tt,hf.tt]
def Ę:∀(n:Nat) (t:Tr),t.sz<=n->Wf t->iD eV t->bo t.op=true->PT t
 |0,t,h,_,_,_=>by have:=xl t;omega
 |n+1,.n op nm v ks,hsz,hw,hv,he=>by
  simp only[Tr.op]at he;simp only[Tr.sz]at hsz;have kd:∀k∈ks,bo k.op=true->Wf k/\iD eV k/\bo k.op=true/\PT k/\EX k:=fun k hk hek=>by
   have h1:=vV hw.2.2 hk;have h2:=qo hv.2 hk;have h3:=Ę n k (by have:=Is hk;omega) h1 h2 hek;exact⟨h1,h2,hek,h3,Lh h1 h2 hek h3⟩
  intro q f s u w R t1 hn h1 h0 h24 e;have hk24:∀k∈ks,s.ne+(Dz op+hT k:Nat)<=24:=fun k hk=>by
   have:=GV (op:=op) (nm:=nm) (v:=v) hk;omega
  have hp1:bc t1=true:=by unfold BR at h1;simp_all
  have hp2:(eqI t1.k 5&&bv t1.s [40])=false:=by unfold BR at h1;grind
  unfold bo at he;simp only[lγ,cn,lδ]at he;have ho:op=1\/op=2\/op=3\/op=4\/op=5\/op=6:=by omega
  have hsz1:s.nd.length+(Tr.n op nm v ks).sz - 1=s.nd.length+eR ks:=by rfl
  rw[hsz1];simp only[Tr.w,Tr.fl]at hn ⊢
  rcases ho with rfl|rfl|rfl|rfl|rfl|rfl
  ·have hks:ks=[]:=by
    have:=hw.1;replace this:(ks.map Tr.op).isEmpty=true:=this;simp_all
   subst hks;obtain⟨rfl,⟨c,rfl,hc⟩|⟨b,rfl⟩|⟨c,rfl,hc⟩⟩:=cv1 hw.2.1
   ·have hn1:=(hv.1 rfl).1;have ht:=(CP hc hn1).2;have hwd:bQ (bW 1 [] (vI c) (wL []))=[⟨3,ew c,c,0⟩]:=by
     show bQ (iA c)=_;unfold iA;rw[tz (show ¬c<0 by omega),cond_false];simp_all
    rw[hwd]at hn;exact ĕ hc hn e
   ·have hwd:bQ (bW 1 [] ⟨2,bif b then 1 else 0,[],[],[]⟩ (wL []))=[kw (bif b then[116,114,117,101]else[102,97,108,115,101])]:=by cases b<;>kernel_rfl
    rw[hwd]at hn;exact Wo hn e
   ·have ht:=(IA (hv.1 rfl).2 hc).2;have hwd:bQ (bW 1 [] ⟨3,0,c,[],[]⟩ (wL []))=[⟨4,c,0,0⟩]:=by
     show[bD (gv c)]=_;rw[ht]
    rw[hwd]at hn;exact Ė hc hn e
  ·have hks:ks=[]:=by
    have:=hw.1;replace this:(ks.map Tr.op).isEmpty=true:=this;simp_all
   subst hks;obtain⟨g1,rfl⟩:=cv2 hw.2.1;have hwd:bQ (bW 2 nm vz (wL []))=[na nm]:=by
    show[bD nm]=_;rw[(jT g1).2]
   rw[hwd]at hn;exact ė g1 hn hp1 hp2 e
  ·have hks:ks=[]:=by
    have:=hw.1;replace this:(ks.map Tr.op).isEmpty=true:=this;simp_all
   subst hks;obtain⟨rfl,rfl⟩:=Zu (.inl rfl) hw.2.1;have hwd:bQ (bW 3 [] vz (wL []))=[kw [115,101,108,102]]:=by rfl
   exact Wp hn e
  ·obtain⟨g1,rfl⟩:=cv4 hw.2.1;have hko:(Nat.beq (ks.map Tr.op).length 1&&(ks.map Tr.op).all bo)=true:=hw.1;rw[lγ,lζ]at hko;obtain⟨k,rfl⟩:=ĵ (lη hko.1);have hek:bo k.op=true:=lσ.1 hko.2 _ (by simp);obtain⟨k1,k2,k3,k4,k5⟩:=kd k (by simp) hek;have hh:=hk24 k (by simp);have hop:Dz 4=2:=rfl;have hmem:nm∈[[45],[33]]++binO:=by grind
   have hwd:bQ (bW 4 nm vz (wL [k]))=sy [40]::sy nm::(bQ k.w++[sy [41]]):=by
    show bQ ([[40],nm]++(k.w++[[41]]))=_;rw[bd,bd,<-Fv,<-Fu,<-(Iw hmem).1];rfl
   rw[hwd]at hn;simp at hn;obtain⟨s1,w1,hn1,hm1,e1,e2⟩:=MT hn h0 (by omega) e;have i1:=hm1.ne;obtain⟨rfl,hf⟩:=ac2 g1 k5 hn1 (by omega) (by omega) e1;have i2:=hf.ne;obtain⟨hn2,hm2⟩:=mb hf.nx (by rfl) (by omega) (by omega) e2;have i3:=hm2.ne;refine⟨by rw[hm1.nd];rfl,hn2,by omega,?_,?_⟩
   ·rw[hm2.nd,hf.nd,hm1.nd];simp only[iW,eJ,lν,lε]
   ·rw[hm2.tt,hf.tt,hm1.tt]
  ·obtain⟨g1,rfl⟩:=cv5 hw.2.1;have hko:(Nat.beq (ks.map Tr.op).length 2&&(ks.map Tr.op).all bo)=true:=hw.1;rw[lγ,lζ]at hko;obtain⟨k,l,rfl⟩:=aeL (lη hko.1);have hek:bo k.op=true:=lσ.1 hko.2 _ (by simp);have hel:bo l.op=true:=lσ.1 hko.2 _ (by simp);obtain⟨k1,k2,k3,k4,k5⟩:=kd k (by simp) hek;obtain⟨l1,l2,l3,l4,l5⟩:=kd l (by simp) hel;have hh:=hk24 k (by simp);have hh2:=hk24 l (by simp);have hop:Dz 5=1:=rfl;have hmem:nm∈[[45],[33]]++binO:=List.mem_append_right _ g1;have hwd:bQ (bW 5 nm vz (wL [k,l]))=sy [40]::(bQ k.w++sy nm::(bQ l.w++[sy [41]])):=by
    show bQ ([[40]]++(k.w++([nm]++(l.w++[[41]]))))=_;rw[bd,bd,bd,bd,<-Fv,<-Fu,<-(Iw hmem).1];rfl
   rw[hwd]at hn;simp at hn;obtain⟨s1,w1,hn1,hm1,e1,e2⟩:=MT hn h0 (by omega) e;have i1:=hm1.ne;obtain⟨rfl,hf⟩:=ac3 g1 k1 k2 k3 k4 l5 hn1 (by omega) (by omega) (by omega) e1;have i2:=hf.ne;obtain⟨hn2,hm2⟩:=mb hf.nx (by rfl) (by omega) (by omega) e2;have i3:=hm2.ne;refine⟨by rw[hm1.nd];simp only[eR,Nat.add_zero,Nat.add_assoc],hn2,by omega,?_,?_⟩
   ·rw[hm2.nd,hf.nd,hm1.nd];simp only[iW,eJ,lν,lε]
   ·rw[hm2.tt,hf.tt,hm1.tt]
  ·obtain⟨g1,rfl⟩:=cv6 hw.2.1;have hko:(Nat.ble (ks.map Tr.op).length 16&&(ks.map Tr.op).all bo)=true:=hw.1;rw[lγ,lζ,Nat.ble_eq]at hko;have hop:Dz 6=1:=rfl;have ht:((bD nm).k=1/\bw (bD nm).s=true)\/bD nm=kw [105,110,116,115]\/bD nm=kw [115,116,114,105,110,103,115]:=by
    rcases g1 with g1|rfl|rfl
    ·rw[(jT g1).2];simp_all
    ·exact .inr (.inl (by rfl))
    ·exact .inr (.inr (by rfl))
   have hts:(bD nm).s=nm:=by
    rcases g1 with g1|rfl|rfl
    ·rw[(jT g1).2]
    all_goals rfl
   have hwd:bQ (bW 6 nm vz (wL ks))=bD nm::bQ (bp (wL ks)):=rfl;have hh0:1<=hT (.n 6 nm vz ks):=by simp only[hT,hop];omega
   have hn':Nx s (bD nm::sy [40]::(bQ (bU 0 (wL ks))++(sy [41]::t1::R))):=by
    have:bQ (bp (wL ks))=sy [40]::(bQ (bU 0 (wL ks))++[sy [41]]):=by
     unfold bp;rw[gO,bd,Fv,<-Fu];rfl
    simp_all
   obtain⟨l,w1,s1,hn1,hm1,e1,e2⟩:=Ĕ ht hn' e;have i1:=hm1.ne;have hn1':Nx s1 (bQ (bp (wL ks))++t1::R):=by
    have:bQ (bp (wL ks))=sy [40]::(bQ (bU 0 (wL ks))++[sy [41]]):=by
     unfold bp;rw[gO,bd,Fv,<-Fu];rfl
    simp_all
   obtain⟨rfl,hf⟩:=Kl ks (fun k hk=>by
    simp_all) hko.1 hn1' (by omega) (by omega) (fun k hk=>by grind) e1
   rw[hts]at e2;obtain⟨rfl,hf2⟩:=gu hf.nx e2;have i2:=hf.ne;have i3:=hf2.ne;refine⟨by rw[hf.nd,lα,iX,hm1.nd],hf2.nx,by omega,?_,?_⟩
   ·rw[hf2.nd,hf.nd,hm1.nd,lε]
   ·rw[hf2.tt,hf.tt,hm1.tt]
def wF {t:Tr}(hw:Wf t)(hv:iD eV t)(he:bo t.op=true):EX t:=Lh hw hv he (Ę t.sz t (Nat.le_refl _) hw hv he)
variable {x:LN}
def YZ {t0:Tk}(h:Gf t0=true)(hx:beginL.any (bv x)=false):eB t0 x=false:=by
 cases hi:eB t0 x with
 |false=>rfl
 |true=>
  unfold Gf at h;unfold eB at hi;simp only[bO,ec,lδ]at h hi;grind
def YY {t:Tr}(hw:Wf t)(hv:iD eV t)(he:bo t.op=true){s:PS}{R:List Tk}(h:Nx s (bQ t.w++R))(hx:beginL.any (bv x)=false):s.is x=false:=by
 obtain⟨t0,r,h1,h2⟩:=Sn hw hv he;rw[h1]at h;rw[Nx.isA h];exact YZ h2 hx
variable {s':PS}
def zB {s:PS}{k n:Int}{R:List Tk}(hk:1<=k/\k<=5)(h:Nx s (bD (ct k)::R))(e:pKind s=some (n,s')):n=k/\Nx s' R/\Sm s s' 0:=by
 obtain⟨-,e⟩:=bb e;have hu:=h.up;have hs:Sm s s.up 0:=⟨(Int.add_zero _).symm,rfl,rfl⟩;have hk':k=1\/k=2\/k=3\/k=4\/k=5:=by omega
 unfold dn kindL at e;simp only[dn,h.isA]at e;rcases hk' with rfl|rfl|rfl|rfl|rfl
 ·rw[show eB (bD (ct 1)) [105,110,116]=true by rfl]at e;simp_all
 ·rw[show eB (bD (ct 2)) [105,110,116]=false by rfl,show eB (bD (ct 2)) [98,111,111,108]=true by rfl]at e;simp_all
 ·rw[show eB (bD (ct 3)) [105,110,116]=false by rfl,show eB (bD (ct 3)) [98,111,111,108]=false by rfl,show eB (bD (ct 3)) [115,116,114,105,110,103]=true by rfl]at e;simp_all
 ·rw[show eB (bD (ct 4)) [105,110,116]=false by rfl,show eB (bD (ct 4)) [98,111,111,108]=false by rfl,show eB (bD (ct 4)) [115,116,114,105,110,103]=false by rfl,show eB (bD (ct 4)) [105,110,116,115]=true by rfl]at e;simp_all
 ·rw[show eB (bD (ct 5)) [105,110,116]=false by rfl,show eB (bD (ct 5)) [98,111,111,108]=false by rfl,show eB (bD (ct 5)) [115,116,114,105,110,103]=false by rfl,show eB (bD (ct 5)) [105,110,116,115]=false by rfl,show eB (bD (ct 5)) [115,116,114,105,110,103,115]=true by rfl]at e;simp_all
def mP {s:PS}{n:LN}{R:List Tk}(hk:bw nm=true)(h:Nx s (bD nm::R))(e:pName s=some (n,s')):n=nm/\Nx s' R/\Sm s s' 0:=by
 rw[(jT hk).2]at h;obtain⟨h1,rfl,h3⟩:=h.name (jJ hk) rfl e;exact⟨h1,h3,(Int.add_zero _).symm,rfl,rfl⟩
def oS {s:PS}{R:List Tk}{x:No}{i:Int}(h:Nx s (sy [59]::R))(e:gL x s=some (i,s')):i=(s.nd.length:Int)/\xF s s' [x] R:=by
 obtain⟨h1,rfl,h3⟩:=acV h e;exact⟨h1,h3,rfl,rfl,rfl⟩
def aeM:([[99,97,108,108],[108,101,116],[105,102],[119,104,105,108,101],[114,101,116,117,114,110],[102,97,105,108],[101,109,105,116],[114,101,109,105,110,100],[99,97,110,99,101,108],[101,108,115,101],[97,99,116,111,114],[115,116,97,116,101],[109,101,116,104,111,100]].all fun o=>tkB (bD o) (kw o))=true:=by rfl
def aeN:([[59],[46],[58],[61],[123],[125],[44],[40],[41]].all fun o=>tkB (bD o) (sy o))=true:=by rfl
def NR {o:LN}(h:o∈[[99,97,108,108],[108,101,116],[105,102],[119,104,105,108,101],[114,101,116,117,114,110],[102,97,105,108],[101,109,105,116],[114,101,109,105,110,100],[99,97,110,99,101,108],[101,108,115,101],[97,99,116,111,114],[115,116,97,116,101],[109,101,116,104,111,100]]):bD o=kw o:=QS (lσ.1 aeM o h)
def C0 {o:LN}(h:o∈[[59],[46],[58],[61],[123],[125],[44],[40],[41]]):bD o=sy o:=QS (lσ.1 aeN o h)
def oQ (ws:Ws)(R:List Tk):bQ (bp ws)++R=sy [40]::(bQ (bU 0 ws)++sy [41]::R):=by
 unfold bp;rw[gO,bd,Fv,<-Fu,List.cons_append,lε];rfl
def Kd (ks:List Tr):Prop:=∀k∈ks,Wf k/\iD eV k/\bo k.op=true
def Kd.of {ks:List Tr}(hw:Ec ks)(hv:oa eV ks)(h:∀k∈ks,bo k.op=true):Kd ks:=fun k hk=>⟨vV hw hk,qo hv hk,h k hk⟩
def Kz {s u:PS}{v:Int}{m:LN}{k:Tr}{ks:List Tr}{R:List Tk}(h1:bw nm=true)(h2:bw m=true)(hk:Kd (k::ks))(h16:ks.length<=16)(hn:Nx s (bQ (bW 7 nm ⟨0,0,m,[],[]⟩ (wL (k::ks)))++R))(h0:0<=s.ne)(hh:s.ne+hT (.n 7 nm ⟨0,0,m,[],[]⟩ (k::ks))<=24)(e:pD (fu q f 0) q s=some (v,u)):
  v=((s.nd.length+eR (k::ks):Nat):Int)/\xF s u ((Tr.n 7 nm ⟨0,0,m,[],[]⟩ (k::ks)).fl s.nd.length) R:=by
 have hh':∀x∈k::ks,s.ne+1+hT x<=24:=fun x hx=>by
  have:=GV (op:=7) (nm:=nm) (v:=⟨0,0,m,[],[]⟩) hx;have:Dz 7=1:=rfl;omega
 have hw:bQ (bW 7 nm ⟨0,0,m,[],[]⟩ (wL (k::ks)))++R=kw [99,97,108,108]::bD nm::sy [40]::(bQ k.w++sy [41]::sy [46]::bD m::(bQ (bp (wL ks))++R)):=by
  show bQ ([[99,97,108,108],nm]++(bp [k.w]++([[46],m]++bp (wL ks))))++R=_;rw[bd,bd,lε,lε,oQ,wz,show bU 1 []=[]from rfl,lν,bd,lε,<-NR (o:=[99,97,108,108]) (by simp),<-C0 (o:=[46]) (by simp)];rfl
 rw[hw]at hn;obtain⟨k1,k2,k3⟩:=hk k (by simp);have hkh:=hh' k (by simp);unfold pD at e;obtain⟨_,s1,e1,e⟩:=aa e;obtain⟨hn1,hm1⟩:=ez hn (by kernel_rfl) e1;obtain⟨n,s2,e2,e⟩:=aa e;obtain⟨rfl,hn2,hm2⟩:=mP h1 hn1 e2;have i1:=hm1.ne;have i2:=hm2.ne;obtain⟨_,s3,e3,e⟩:=aa e;obtain⟨hn3,hm3⟩:=oT hn2 (by kernel_rfl) (by omega) (by omega) e3;have i3:=hm3.ne;obtain⟨key,s4,e4,e⟩:=aa e;obtain⟨rfl,hf4⟩:=wF k1 k2 k3 q f 0 s3 s4 key _ _ (by omega) hn3 (by kernel_rfl) (by kernel_rfl) (by omega) (by omega) e4;have i4:=hf4.ne;obtain⟨_,s5,e5,e⟩:=aa e;obtain⟨hn5,hm5⟩:=mb hf4.nx (by kernel_rfl) (by omega) (by omega) e5;have i5:=hm5.ne;obtain⟨_,s6,e6,e⟩:=aa e;obtain⟨hn6,hm6⟩:=ez hn5 (by kernel_rfl) e6;obtain⟨m',s7,e7,e⟩:=aa e;obtain⟨rfl,hn7,hm7⟩:=mP h2 hn6 e7;have i6:=hm6.ne;have i7:=hm7.ne;obtain⟨l,s8,e8,e⟩:=aa e;obtain⟨rfl,hf8⟩:=Kl ks (fun x hx=>by
  obtain⟨a1,a2,a3⟩:=hk x (by simp[hx]);exact⟨a1,a2,a3,wF a1 a2 a3⟩) h16 hn7 (by omega) (by omega) (fun x hx=>by have:=hh' x (by simp[hx]);omega) e8
 obtain⟨rfl,hf9⟩:=gu hf8.nx e;have i8:=hf8.ne;have i9:=hf9.ne;have j4:s4.nd=s.nd++k.fl s.nd.length:=by rw[hf4.nd,hm3.nd,hm2.nd,hm1.nd]
 have j7:s7.nd=s.nd++k.fl s.nd.length:=by rw[hm7.nd,hm6.nd,hm5.nd,j4]
 have l7:s7.nd.length=s.nd.length+k.sz:=by rw[j7,lα,gB]
 have l3:s3.nd.length=s.nd.length:=by rw[hm3.nd,hm2.nd,hm1.nd]
 refine⟨?_,hf9.nx,by omega,?_,?_⟩
 ·rw[hf8.nd,lα,iX,l7];simp only[eR,Nat.add_assoc]
 ·rw[hf9.nd,hf8.nd,l7,j7,l3];simp only[Tr.fl,iW,eJ,lε]
 ·rw[hf9.tt,hf8.tt,hm7.tt,hm6.tt,hm5.tt,hf4.tt,hm3.tt,hm2.tt,hm1.tt]
def TN {s u:PS}{v:Int}{k:Tr}{R:List Tk}(hw:Wf k)(hv:iD eV k)(ho:m8 k.op=true)(hn:Nx s (sy [61]::(bQ k.w++sy [59]::R)))(h0:0<=s.ne)(hh:s.ne+hT k<=24)(e:kU (fu q f 0) q s=some (v,u)):v=((s.nd.length+k.sz - 1:Nat):Int)/\xF s u (k.fl s.nd.length) (sy [59]::R):=by
 unfold kU at e;obtain⟨_,s1,e1,e⟩:=aa e;obtain⟨hn1,hm1⟩:=ez hn (by kernel_rfl) e1;have i1:=hm1.ne;obtain⟨-,e⟩:=aD e;have main:v=((s1.nd.length+k.sz - 1:Nat):Int)/\xF s1 u (k.fl s1.nd.length) (sy [59]::R):=by
  by_cases hc:bo k.op=true
  ·rcases e with⟨k',-⟩|⟨-,e⟩;case inl=>rw[YY hw hv hc hn1 (by kernel_rfl)]at k';cases k'
   exact wF hw hv hc q f 0 s1 u v _ _ (by omega) hn1 (by kernel_rfl) (by kernel_rfl) (by omega) (by omega) e
  ·cases k with
   |n op nm v' ks=>
    have h7:op=7:=by
     unfold m8 pN at ho;simp only[mκ,bO,lδ]at ho;rcases ho with h|h
     ·exact absurd h hc
     ·exact h
    subst h7;simp only[Wf]at hw;simp only[iD]at hv;obtain⟨g1,g2,g3⟩:=cv7 hw.2.1;rw[g3]at hn1 hh ⊢
    have hko:((Nat.ble 1 (ks.map Tr.op).length&&Nat.ble (ks.map Tr.op).length 17)&&(ks.map Tr.op).all bo)=true:=hw.1;simp only[lγ,lζ,Nat.ble_eq]at hko;have hkd:=Kd.of hw.2.2 hv.2 (fun k hk=>lσ.1 hko.2 _ (List.mem_map_of_mem hk));match ks,hko,hkd,hn1,hh with
    |[],hko,_,_,_=>simp at hko
    |k::ks,hko,hkd,hn1,hh=>
     have hn2:=hn1;simp only[Tr.w]at hn2;rcases e with⟨-,e⟩|⟨k',-⟩;case inr=>
      have:Nx s1 (kw [99,97,108,108]::(bQ (bW 7 nm ⟨0,0,v'.s,[],[]⟩ (wL (k::ks)))).tail++sy [59]::R):=by
       rw[<-NR (o:=[99,97,108,108]) (by simp)];exact hn2
      rw[Nx.isA this,show eB (kw [99,97,108,108]) [99,97,108,108]=true by kernel_rfl]at k';cases k'
     have:=Kz g1 g2 hkd (by have:=hko.1.2;simp at this;omega) hn2 (by omega) (by omega) e;obtain⟨r1,r2⟩:=this;refine⟨?_,r2⟩;rw[r1];simp only[Tr.sz];congr 1
 obtain⟨r1,r2⟩:=main;refine⟨by rw[r1,hm1.nd],r2.nx,by have:=r2.ne;omega,by rw[r2.nd,hm1.nd],r2.tt.trans hm1.tt⟩
def w7 {q f:Nat}(ks:List Tr)(hk:Kd ks)(b:Nat)(ne:Int)(nd0:List No)(tt:Int)(hb:nd0.length=b)(h0:0<=ne)(hh:∀k∈ks,ne+hT k<=24):∀(n i:Nat) (s u:PS) (l':LI) (R:List Tk),i+n=ks.length->s.ne=ne->s.tt=tt->s.nd=nd0++iW (ks.take i) b->
  Nx s (bQ (bU i (wL (ks.drop i)))++sy [41]::R)->jj (fu q f 0) n (eJ b (ks.take i)) s=some (l',u)->l'=eJ b ks/\u.ne=ne/\u.tt=tt/\u.nd=nd0++iW ks b/\Nx u (sy [41]::R)
 |0,i,s,u,l',R,hi,h1,h2,h3,hn,e=>by
  obtain⟨rfl,rfl⟩:=au e;have ht:ks.take i=ks:=mβ (by omega);rw[ht]at h3 ⊢
  rw[List.drop_of_length_le (by omega)]at hn;refine⟨rfl,h1,h2,h3,?_⟩;cases i<;>exact hn
 |n+1,i,s,u,l',R,hi,h1,h2,h3,hn,e=>by
  have hi':i<ks.length:=by omega
  obtain⟨k1,k2,k3⟩:=hk _ (lπ hi');have hh1:=hh _ (lπ hi');have step:∀(w:PS) (t1:Tk) (R':List Tk) (x:Int) (z:PS),(t1=sy [44]\/t1=sy [41])->w.ne=ne->w.tt=tt->w.nd=s.nd->Nx w (bQ ks[i].w++t1::R')->fu q f 0 w=some (x,z)->eJ b (ks.take i)++[x]=eJ b (ks.take (i+1))/\z.ne=ne/\z.tt=tt/\z.nd=nd0++iW (ks.take (i+1)) b/\Nx z (t1::R'):=fun w t1 R' x z ht a1 a2 a3 hw ee=>by
   obtain⟨c1,c2⟩:=KG ht;obtain⟨rfl,hf⟩:=wF k1 k2 k3 q f 0 w z x R' t1 (by omega) hw c1 c2 (by omega) (by omega) ee;have hwl:w.nd.length=b+eR (ks.take i):=by rw[a3,h3,lα,iX,hb]
   refine⟨by rw[iz ks i hi',vm,hwl],hf.ne.trans a1,hf.tt.trans a2,?_,hf.nx⟩
   rw[hf.nd,a3,h3,iz ks i hi',uz,<-h3,<-a3,hwl,a3,h3,lε]
  have hd:wL (ks.drop i)=ks[i].w::wL (ks.drop (i+1)):=by rw[lι hi'];rfl
  have next:∀(t1:Tk) (z:PS),True:=fun _ _=>trivial
  have tokn:∃t1 R',(t1=sy [44]\/t1=sy [41])/\bQ (bU (i+1) (wL (ks.drop (i+1))))++sy [41]::R=t1::R':=by
   rw[wA];cases wL (ks.drop (i+1))with
   |nil=>exact⟨_,_,.inr rfl,rfl⟩
   |cons w r=>exact⟨sy [44],_,.inl rfl,by rw[AZ,gO,QV];rfl⟩
  obtain⟨t1,R',ht,htok⟩:=tokn;rw[hd]at hn;have emp:(eJ b (ks.take i)).isEmpty=Nat.beq i 0:=by
   cases i with
   |zero=>rfl
   |succ i=>
    cases ks with
    |nil=>simp at hi'
    |cons=>rfl
  unfold jj at e;rw[emp]at e;cases i with
  |zero=>
   replace e:(snoc (fu q f 0) (eJ b (ks.take 0))).bnd (jj (fu q f 0) n) s=some (l',u):=e;obtain⟨l1,s1,e1,e⟩:=aa e;obtain⟨x,e1x,-,rfl⟩:=cf e1;rw[wz,bd,lε]at hn;rw[show bU 1 (wL (ks.drop (0+1)))=bU (0+1) (wL (ks.drop (0+1)))from rfl,htok]at hn;obtain⟨g1,g2,g3,g4,g5⟩:=step s t1 R' x s1 ht h1 h2 rfl hn e1x;rw[g1]at e;rw[<-htok]at g5;exact w7 ks hk b ne nd0 tt hb h0 hh n (0+1) s1 u l' R (by omega) g2 g3 g4 g5 e
  |succ i=>
   replace e:(gE [44]).bnd (fun _=>(snoc (fu q f 0) (eJ b (ks.take (i+1)))).bnd (jj (fu q f 0) n)) s=some (l',u):=e
   rw[wA,AZ,gO,QV,bd,List.cons_append,lε]at hn;obtain⟨_,s0,e0,e⟩:=aa e;obtain⟨hn0,hm0⟩:=ez hn (by kernel_rfl) e0;obtain⟨l1,s1,e1,e⟩:=aa e;obtain⟨x,e1x,-,rfl⟩:=cf e1;rw[<-wA (i+1),htok]at hn0;obtain⟨g1,g2,g3,g4,g5⟩:=step s0 t1 R' x s1 ht (by have:=hm0.ne;omega) (hm0.tt.trans h2) hm0.nd hn0 e1x;rw[g1]at e;rw[<-htok]at g5;exact w7 ks hk b ne nd0 tt hb h0 hh n (i+1+1) s1 u l' R (by omega) g2 g3 g4 g5 e
def E_ {s u:PS}{l:LI}{R:List Tk}(ks:List Tr)(hk:Kd ks)(hn:Nx s (bQ (bp (wL ks))++R))(h0:0<=s.ne)(h24:s.ne<24)(hh:∀k∈ks,s.ne+1+hT k<=24)(e:tf (fu q f 0) ks.length s=some (l,u)):l=eJ s.nd.length ks/\xF s u (iW ks s.nd.length) R:=by
 rw[oQ]at hn;obtain⟨_,s1,e1,e⟩:=aa e;obtain⟨l2,s2,e2,e⟩:=aa e;obtain⟨_,s3,e3,e⟩:=aa e;obtain⟨rfl,rfl⟩:=au e;obtain⟨hn1,hm1⟩:=oT hn (by rfl) h0 h24 e1;obtain⟨rfl,g2,g3,g4,g5⟩:=w7 ks hk s.nd.length (s.ne+1) s.nd s.tt rfl (by omega) hh ks.length 0 s1 s2 l2 R (by omega) hm1.ne hm1.tt (by rw[hm1.nd];simp only[List.take_zero,iW,lν]) hn1 (by simpa only[List.take_zero,eJ]using e2);obtain⟨hn3,hm3⟩:=mb g5 (by rfl) (by omega) (by omega) e3;exact⟨rfl,hn3,by have:=hm3.ne;omega,hm3.nd.trans g4,hm3.tt.trans g3⟩
section
def aY {c:PS->Bool}{p q:PM α}{s:PS}{r:α×PS}(hc:c s=false)(e:cnd c p q s=some r):q s=some r:=by
 obtain⟨-,e⟩:=aD e;simp_all
def dF {c:PS->Bool}{p q:PM α}{s:PS}{r:α×PS}(hc:c s=true)(e:cnd c p q s=some r):p s=some r:=by
 obtain⟨-,e⟩:=aD e;simp_all
def K5 (t:Tk):Bool:=bc t&&!eB t [101,108,115,101]
def ST (t:Tr):Prop:=∀(q f:Nat) (s u:PS) (v:Int) (R:List Tk) (t1:Tk),Nx s (bQ t.w++t1::R)->K5 t1=true->0<=s.ne->s.ne+hT t<=24->f8 (fu q f 0) (Ek q f) q s=some (v,u)->v=((s.nd.length+t.sz - 1:Nat):Int)/\xF s u (t.fl s.nd.length) (t1::R)
def BT (t:Tr):Prop:=∀(q f:Nat) (s u:PS) (v:Int) (R:List Tk),Nx s (bQ t.w++R)->0<=s.ne->s.ne+hT t<=24->Ek q f s=some (v,u)->v=((s.nd.length+t.sz - 1:Nat):Int)/\xF s u (t.fl s.nd.length) R
def bB {s:PS}{w:LN}{R:List Tk}{b:Bool}(hn:Nx s (kw w::R))(h:eB (kw w) x=b):s.is x=b:=(hn.isA x).trans h
def Fi {s:PS}{w:LN}{R:List Tk}{b:Bool}(hn:Nx s (sy w::R))(h:eB (sy w) x=b):s.is x=b:=(hn.isA x).trans h
def LB {s:PS}{w:LN}{R:List Tk}(hn:Nx s (kw w::R))(h:bc (kw w)=true):eqI (s.peek 0).k 1=false:=by
 rw[(hn.k h).1];rfl
section
variable {ex bl:PM Int} {q:Nat} {s u:PS} {v:Int} {R:List Tk}
def Ĥ (hn:Nx s (kw [108,101,116]::R))(e:f8 ex bl q s=some (v,u)):(pUp.bnd fun _=>pName.bnd fun n=>(gE [58]).bnd fun _=>pKind.bnd fun k=>(kU ex q).bnd fun x=>gL ⟨8,n,⟨k,0,[],[],[]⟩,[x]⟩) s=some (v,u):=by
 exact dF (bB hn (by rfl)) e
def WK (hn:Nx s (kw [99,97,108,108]::R))(e:f8 ex bl q s=some (v,u)):((pD ex q).bnd fun x=>gL ⟨10,[],vz,[x]⟩) s=some (v,u):=by
 exact dF (bB hn (by rfl)) (aY (LB hn (by rfl)) (aY (bB hn (by rfl)) e))
def S_ (hn:Nx s (kw [105,102]::R))(e:f8 ex bl q s=some (v,u)):(pUp.bnd fun _=>pE 11 ex bl) s=some (v,u):=by
 exact dF (bB hn (by rfl)) (aY (bB hn (by rfl)) (aY (LB hn (by rfl)) (aY (bB hn (by rfl)) e)))
def QK (hn:Nx s (kw [119,104,105,108,101]::R))(e:f8 ex bl q s=some (v,u)):(pUp.bnd fun _=>pE 12 ex bl) s=some (v,u):=by
 exact dF (bB hn (by rfl)) (aY (bB hn (by rfl)) (aY (bB hn (by rfl)) (aY (LB hn (by rfl)) (aY (bB hn (by rfl)) e))))
def ya (hn:Nx s (kw [114,101,116,117,114,110]::R))(e:f8 ex bl q s=some (v,u)):(pUp.bnd fun _=>cnd (fun s=>s.is [59]) (gL ⟨13,[],vz,[]⟩) (ex.bnd fun x=>gL ⟨13,[],vz,[x]⟩)) s=some (v,u):=by
 exact dF (bB hn (by rfl)) (aY (bB hn (by rfl)) (aY (bB hn (by rfl)) (aY (bB hn (by rfl)) (aY (LB hn (by rfl)) (aY (bB hn (by rfl)) e)))))
def WM (hn:Nx s (kw [102,97,105,108]::R))(e:f8 ex bl q s=some (v,u)):(pUp.bnd fun _=>gL ⟨14,[],vz,[]⟩) s=some (v,u):=by
 exact dF (bB hn (by rfl)) (aY (bB hn (by rfl)) (aY (bB hn (by rfl)) (aY (bB hn (by rfl)) (aY (bB hn (by rfl)) (aY (LB hn (by rfl)) (aY (bB hn (by rfl)) e))))))
def WL (hn:Nx s (kw [101,109,105,116]::R))(e:f8 ex bl q s=some (v,u)):(pUp.bnd fun _=>(tf ex 2).bnd fun l=>gL ⟨15,[],vz,l⟩) s=some (v,u):=by
 exact dF (bB hn (by rfl)) (aY (bB hn (by rfl)) (aY (bB hn (by rfl)) (aY (bB hn (by rfl)) (aY (bB hn (by rfl)) (aY (bB hn (by rfl)) (aY (LB hn (by rfl)) (aY (bB hn (by rfl)) e)))))))
def Nz (hn:Nx s (kw [114,101,109,105,110,100]::R))(e:f8 ex bl q s=some (v,u)):(pUp.bnd fun _=>(tf ex 3).bnd fun l=>gL ⟨16,[],vz,l⟩) s=some (v,u):=by
 exact dF (bB hn (by rfl)) (aY (bB hn (by rfl)) (aY (bB hn (by rfl)) (aY (bB hn (by rfl)) (aY (bB hn (by rfl)) (aY (bB hn (by rfl)) (aY (bB hn (by rfl)) (aY (LB hn (by rfl)) (aY (bB hn (by rfl)) e))))))))
def Ny (hn:Nx s (kw [99,97,110,99,101,108]::R))(e:f8 ex bl q s=some (v,u)):(pUp.bnd fun _=>(tf ex 1).bnd fun l=>gL ⟨17,[],vz,l⟩) s=some (v,u):=by
 exact dF (bB hn (by rfl)) (aY (bB hn (by rfl)) (aY (bB hn (by rfl)) (aY (bB hn (by rfl)) (aY (bB hn (by rfl)) (aY (bB hn (by rfl)) (aY (bB hn (by rfl)) (aY (bB hn (by rfl)) (aY (LB hn (by rfl)) (aY (bB hn (by rfl)) e)))))))))
def ĥ (hm:bw nm=true)(hn:Nx s (bD nm::R))(e:f8 ex bl q s=some (v,u)):(pName.bnd fun n=>(kU ex q).bnd fun x=>gL ⟨9,n,vz,[x]⟩) s=some (v,u):=by
 rw[(jT hm).2]at hn;exact dF (by rw[(hn.k (jJ hm)).1];rfl) (aY ((hn.isA _).trans (ma hm _)) e)
end
def CQ {n:Nat}{s u:PS}{v:Int}{R:List Tk}{op:Int}(ks:List Tr)(hl:ks.length=n)(hk:Kd ks)(hn:Nx s (kw x::(bQ (bp (wL ks))++sy [59]::R)))(h0:0<=s.ne)(h24:s.ne<24)(hh:∀k∈ks,s.ne+1+hT k<=24)(e:(pUp.bnd fun _=>(tf (fu q f 0) n).bnd fun l=>gL ⟨op,[],vz,l⟩) s=some (v,u)):
  v=((s.nd.length+eR ks:Nat):Int)/\xF s u (iW ks s.nd.length++[⟨op,[],vz,eJ s.nd.length ks⟩]) R:=by
 subst hl;obtain⟨_,s1,e1,e⟩:=aa e;obtain⟨hn1,hm1⟩:=kx hn e1;have i1:=hm1.ne;obtain⟨l,s2,e2,e⟩:=aa e;obtain⟨rfl,hf⟩:=E_ ks hk hn1 (by omega) (by omega) (fun k hk=>by have:=hh k hk;omega) e2;obtain⟨rfl,hf2⟩:=oS hf.nx e;have i2:=hf.ne;have i3:=hf2.ne;refine⟨by rw[hf.nd,lα,iX,hm1.nd],hf2.nx,by omega,?_,?_⟩
 ·rw[hf2.nd,hf.nd,hm1.nd,lε]
 ·rw[hf2.tt,hf.tt,hm1.tt]
def Cz {t:Tr}(hw:Wf t)(ho:mw t.op=true):∃t0 r,bQ t.w=t0::r/\K5 t0=true/\eB t0 [125]=false:=by
 cases t with
 |n op nm v ks=>
  simp only[Wf]at hw;simp only[Tr.op]at ho;simp only[Tr.w];unfold mw at ho;simp only[lγ,cn,lδ]at ho;have e:op=8\/op=9\/op=10\/op=11\/op=12\/op=13\/op=14\/op=15\/op=16\/op=17:=by omega
  rcases e with rfl|rfl|rfl|rfl|rfl|rfl|rfl|rfl|rfl|rfl
  ·exact⟨bD [108,101,116],_,rfl,by kernel_rfl,by kernel_rfl⟩
  ·have h1:=(cv9 hw.2.1).1;refine⟨na nm,_,by show bD nm::_=_;rw[(jT h1).2],?_,ma h1 _⟩
   unfold K5;rw[jJ h1,ma h1];rfl
  ·have hko:(Nat.beq (ks.map Tr.op).length 1&&(ks.map Tr.op).all pN)=true:=hw.1;rw[lγ,lζ]at hko;obtain⟨k,rfl⟩:=ĵ (lη hko.1);have h7:pN k.op=true:=lσ.1 hko.2 _ (by simp);cases k with
   |n op' nm' v' ks'=>
    have h7':op'=7:=by
     unfold pN at h7;rwa [bO,lδ]at h7
    subst h7';exact⟨bD [99,97,108,108],_,rfl,by kernel_rfl,by kernel_rfl⟩
  ·exact⟨bD [105,102],_,rfl,by kernel_rfl,by kernel_rfl⟩
  ·exact⟨bD [119,104,105,108,101],_,rfl,by kernel_rfl,by kernel_rfl⟩
  ·exact⟨bD [114,101,116,117,114,110],_,rfl,by kernel_rfl,by kernel_rfl⟩
  ·exact⟨bD [102,97,105,108],_,rfl,by kernel_rfl,by kernel_rfl⟩
  ·exact⟨bD [101,109,105,116],_,rfl,by kernel_rfl,by kernel_rfl⟩
  ·exact⟨bD [114,101,109,105,110,100],_,rfl,by kernel_rfl,by kernel_rfl⟩
  ·exact⟨bD [99,97,110,99,101,108],_,rfl,by kernel_rfl,by kernel_rfl⟩
def El {st:PM Int}(ks:List Tr)(hw:∀k∈ks,Wf k/\mw k.op=true)(b:Nat)(ne:Int)(nd0:List No)(tt:Int)(hb:nd0.length=b)(R:List Tk)
  (hS:∀k∈ks,∀(s u:PS) (v:Int) (t1:Tk) (R':List Tk),s.ne=ne->Nx s (bQ k.w++t1::R')->K5 t1=true->st s=some (v,u)->v=((s.nd.length+k.sz - 1:Nat):Int)/\xF s u (k.fl s.nd.length) (t1::R')):
  ∀(n q i:Nat) (s u:PS) (l':LI),i+n=ks.length->s.ne=ne->s.tt=tt->s.nd=nd0++iW (ks.take i) b->Nx s (bQ (aF (wL (ks.drop i)))++sy [125]::R)->lK st q (eJ b (ks.take i)) s=some (l',u)->l'=eJ b ks/\u.ne=ne/\u.tt=tt/\u.nd=nd0++iW ks b/\Nx u (sy [125]::R)
 |n,0,i,s,u,l',hi,h1,h2,h3,hn,e=>by cases e
 |0,q+1,i,s,u,l',hi,h1,h2,h3,hn,e=>by
  have ht:ks.take i=ks:=mβ (by omega);rw[List.drop_of_length_le (by omega)]at hn;replace hn:Nx s (sy [125]::R):=hn;unfold lK at e;rcases bT e with⟨-,e⟩|⟨k,-⟩;case inr=>rw[hn.ok]at k;cases k
  obtain⟨rfl,rfl⟩:=au (dF (Fi hn (by kernel_rfl)) e);rw[ht]at h3 ⊢
  exact⟨rfl,h1,h2,h3,hn⟩
 |n+1,q+1,i,s,u,l',hi,h1,h2,h3,hn,e=>by
  have hi':i<ks.length:=by omega
  obtain⟨k1,k2⟩:=hw _ (lπ hi');obtain⟨t0,r0,f1,f2,f3⟩:=Cz k1 k2;have hd:aF (wL (ks.drop i))=ks[i].w++aF (wL (ks.drop (i+1))):=by rw[lι hi'];rfl
  rw[hd,bd,lε]at hn;have tokn:∃t1 R',K5 t1=true/\bQ (aF (wL (ks.drop (i+1))))++sy [125]::R=t1::R':=by
   rcases lυ (i+1) ks.length with h|h
   ·obtain⟨a1,a2⟩:=hw _ (lπ h);obtain⟨t0,r0,f1,f2,f3⟩:=Cz a1 a2;rw[lι h];refine⟨t0,(r0++bQ (aF (wL (ks.drop (i+1+1)))))++sy [125]::R,f2,?_⟩;show bQ (ks[i+1].w++aF (wL (ks.drop (i+1+1))))++_=_;rw[bd,f1];rfl
   ·rw[List.drop_of_length_le h];exact⟨sy [125],_,by kernel_rfl,rfl⟩
  obtain⟨t1,R',ht,htok⟩:=tokn;rw[htok]at hn;unfold lK at e;rcases bT e with⟨-,e⟩|⟨k,-⟩;case inr=>rw[hn.ok]at k;cases k
  have hc:s.is [125]=false:=by
   have hn':=hn;rw[f1]at hn';rw[Nx.isA hn'];exact f3
  replace e:=aY (c:=fun s=>s.is [125]) hc e;obtain⟨l1,s1,e1,e⟩:=aa e;obtain⟨x,e1x,-,rfl⟩:=cf e1;obtain⟨rfl,hf⟩:=hS _ (lπ hi') s s1 x t1 R' h1 hn ht e1x;have hwl:s.nd.length=b+eR (ks.take i):=by rw[h3,lα,iX,hb]
  have g1:eJ b (ks.take i)++[((s.nd.length+ks[i].sz - 1:Nat):Int)]=eJ b (ks.take (i+1)):=by rw[iz ks i hi',vm,hwl]
  rw[g1]at e;have g5:=hf.nx;rw[<-htok]at g5;refine El ks hw b ne nd0 tt hb R hS n q (i+1) s1 u l' (by omega) (hf.ne.trans h1) (hf.tt.trans h2) ?_ g5 e;rw[hf.nd,iz ks i hi',uz,hwl,h3,lε]
def En {lim:PM Unit}{st:PM Int}{s u:PS}{v:Int}{ks:List Tr}(hw:∀k∈ks,Wf k/\mw k.op=true){R:List Tk}(hS:∀k∈ks,∀(z u:PS) (v:Int) (t1:Tk) (R':List Tk),z.ne=s.ne+1->Nx z (bQ k.w++t1::R')->K5 t1=true->st z=some (v,u)->v=((z.nd.length+k.sz - 1:Nat):Int)/\xF z u (k.fl z.nd.length) (t1::R'))(hn:Nx s (bQ (Tr.n 18 [] vz ks).w++R))(h0:0<=s.ne)(h24:s.ne<24)(e:gD lim st q s=some (v,u)):
  ∃s3 s4,v=((s.nd.length+eR ks:Nat):Int)/\Nx s3 (sy [125]::R)/\s3.ne=s.ne+1/\s3.nd=s.nd++(Tr.n 18 [] vz ks).fl s.nd.length/\s3.tt=s.tt/\lim s3=some ((),s4)/\(s4=s3->xF s u ((Tr.n 18 [] vz ks).fl s.nd.length) R):=by
 have hwd:bQ (Tr.n 18 [] vz ks).w++R=sy [123]::(bQ (aF (wL ks))++sy [125]::R):=by
  show bQ ([[123]]++(aF (wL ks)++[[125]]))++R=_;rw[bd,bd,<-C0 (o:=[123]) (by simp),<-C0 (o:=[125]) (by simp),lε,lε];rfl
 rw[hwd]at hn;unfold gD at e;obtain⟨_,s1,e1,e⟩:=aa e;obtain⟨hn1,hm1⟩:=oT hn (by kernel_rfl) h0 h24 e1;have i1:=hm1.ne;obtain⟨l,s2,e2,e⟩:=aa e;obtain⟨rfl,g2,g3,g4,g5⟩:=El ks hw s.nd.length (s.ne+1) s.nd s.tt rfl R hS ks.length q 0 s1 s2 l (by omega) hm1.ne hm1.tt (by rw[hm1.nd];simp only[List.take_zero,iW,lν]) hn1 (by simpa only[List.take_zero,eJ]using e2);rcases bT e with⟨-,e⟩|⟨k,-⟩;case inr=>rw[g5.ok]at k;cases k
 obtain⟨x,s3,e3,e⟩:=aa e;obtain⟨rfl,hf3⟩:=gu g5 e3;obtain⟨_,s4,e4,e⟩:=aa e;obtain⟨_,s5,e5,e⟩:=aa e;obtain⟨rfl,rfl⟩:=au e;have i3:=hf3.ne;have hnd:s3.nd=s.nd++(Tr.n 18 [] vz ks).fl s.nd.length:=by
  rw[hf3.nd,g4];simp only[Tr.fl,lε]
 refine⟨s3,s4,by rw[g4,lα,iX],hf3.nx,by omega,hnd,hf3.tt.trans g3,e4,fun h=>?_⟩
 subst h;obtain⟨hn6,hm6⟩:=mb hf3.nx (by kernel_rfl) (by omega) (by omega) e5;exact⟨hn6,by have:=hm6.ne;omega,hm6.nd.trans hnd,by rw[hm6.tt,hf3.tt,g3]⟩
end
def ad2 {ks:List Tr}(h:(ks.map Tr.op).isEmpty=true):ks=[]:=by
 simp_all
def mG {ks:List Tr}{p:Int->Bool}(h:(ks.map Tr.op).all p=true):∀k∈ks,p k.op=true:=by simp_all
def afv {op:Int}{ks:List Tr}(ho:op=15)(h:fC op (ks.map Tr.op)=true):ks.length=2/\∀k∈ks,bo k.op=true:=by
 subst ho;replace h:(Nat.beq (ks.map Tr.op).length 2&&(ks.map Tr.op).all bo)=true:=h;simp_all
def afw {op:Int}{ks:List Tr}(ho:op=16)(h:fC op (ks.map Tr.op)=true):ks.length=3/\∀k∈ks,bo k.op=true:=by
 subst ho;replace h:(Nat.beq (ks.map Tr.op).length 3&&(ks.map Tr.op).all bo)=true:=h;simp_all
def afu {op:Int}{ks:List Tr}(ho:op=17)(h:fC op (ks.map Tr.op)=true):ks.length=1/\∀k∈ks,bo k.op=true:=by
 subst ho;replace h:(Nat.beq (ks.map Tr.op).length 1&&(ks.map Tr.op).all bo)=true:=h;simp_all
def B_ {t:Tr}(h:lb t.op=true):t.op=18:=by unfold lb at h;rwa [bO,lδ]at h
def hL0 {op:Int}{t:Tr}{r:List Tr}(j:Nat):hT t+fiH op j<=hL op j (t::r):=by simp only[hL];omega
def aef {q:Nat}{s u:PS}{v:Int}{R:List Tk}{op:Int}{x:LN}(hn:Nx s (kw x::sy [59]::R))(e:(pUp.bnd fun _=>gL ⟨op,[],vz,[]⟩) s=some (v,u)):v=(s.nd.length:Int)/\xF s u [⟨op,[],vz,[]⟩] R:=by
 obtain⟨_,s1,e1,e⟩:=aa e;obtain⟨hn1,hm1⟩:=kx hn e1;obtain⟨rfl,hf⟩:=oS hn1 e;exact⟨by rw[hm1.nd],hf.nx,by have:=hf.ne;have:=hm1.ne;omega,by rw[hf.nd,hm1.nd],hf.tt.trans hm1.tt⟩
def KH {s u:PS}{v:Int}{op:Int}{c b:Tr}{r:List Tr}{R:List Tk}{t1:Tk}(ho:op=11/\r.length<=1\/op=12/\r=[])(hc:Wf c/\iD eV c/\bo c.op=true)(hb:BT b)(hr:∀x∈r,BT x)(hn:Nx s (sy [40]::(bQ c.w++sy [41]::(bQ b.w++(bQ (rS (wL r))++t1::R)))))(he:K5 t1=true)(h0:0<=s.ne)(hh:s.ne+hL op 0 (c::b::r)<=24)(e:pE op (fu q f 0) (Ek q f) s=some (v,u)):
  v=((s.nd.length+eR (c::b::r):Nat):Int)/\xF s u (iW (c::b::r) s.nd.length++[⟨op,[],vz,eJ s.nd.length (c::b::r)⟩]) (t1::R):=by
 have hf0:fiH op 0=1:=by rcases ho with⟨rfl,-⟩|⟨rfl,-⟩<;>rfl
 have hhc:=hL0 (op:=op) (t:=c) (r:=b::r) 0;have hhb:=Sw (op:=op) (c::b::r) 0 b (by simp);unfold pE at e;obtain⟨_,s1,e1,e⟩:=aa e;obtain⟨hn1,hm1⟩:=oT hn (by kernel_rfl) h0 (by omega) e1;have i1:=hm1.ne;obtain⟨x,s2,e2,e⟩:=aa e;obtain⟨rfl,hf2⟩:=wF hc.1 hc.2.1 hc.2.2 q f 0 s1 s2 x _ _ (by omega) hn1 (by kernel_rfl) (by kernel_rfl) (by omega) (by omega) e2;have i2:=hf2.ne;obtain⟨_,s3,e3,e⟩:=aa e;obtain⟨hn3,hm3⟩:=mb hf2.nx (by kernel_rfl) (by omega) (by omega) e3;have i3:=hm3.ne;obtain⟨y,s4,e4,e⟩:=aa e;obtain⟨rfl,hf4⟩:=hb q f s3 s4 y _ hn3 (by omega) (by omega) e4;have i4:=hf4.ne;have j3:s3.nd=s.nd++c.fl s.nd.length:=by rw[hm3.nd,hf2.nd,hm1.nd]
 have l3:s3.nd.length=s.nd.length+c.sz:=by rw[j3,lα,gB]
 have j4:s4.nd=s.nd++c.fl s.nd.length++b.fl (s.nd.length+c.sz):=by rw[hf4.nd,l3,j3]
 have l4:s4.nd.length=s.nd.length+c.sz+b.sz:=by rw[j4,lα,lα,gB,gB]
 have t4:s4.tt=s.tt:=by rw[hf4.tt,hm3.tt,hf2.tt,hm1.tt]
 have l1:s1.nd.length=s.nd.length:=by rw[hm1.nd]
 rw[l1,l3]at e;have two:r=[]->eb ⟨op,[],vz,[((s.nd.length+c.sz - 1:Nat):Int),((s.nd.length+c.sz+b.sz - 1:Nat):Int)]⟩ s4=some (v,u)->v=((s.nd.length+eR (c::b::r):Nat):Int)/\xF s u (iW (c::b::r) s.nd.length++[⟨op,[],vz,eJ s.nd.length (c::b::r)⟩]) (t1::R):=fun hr e=>by
  subst hr;obtain⟨rfl,hf⟩:=gu (R:=t1::R) hf4.nx e;have i5:=hf.ne;refine⟨by rw[l4];simp only[eR,Nat.add_zero,Nat.add_assoc],hf.nx,by omega,?_,hf.tt.trans t4⟩
  rw[hf.nd,j4];simp only[iW,eJ,lν,lε]
 rcases ho with⟨rfl,ho⟩|⟨rfl,rfl⟩
 ·replace e:cnd (fun s=>s.is [101,108,115,101]) (pUp.bnd fun _=>(Ek q f).bnd fun e=>eb ⟨11,[],vz,[((s.nd.length+c.sz - 1:Nat):Int),((s.nd.length+c.sz+b.sz - 1:Nat):Int),e]⟩) (eb ⟨11,[],vz,[((s.nd.length+c.sz - 1:Nat):Int),((s.nd.length+c.sz+b.sz - 1:Nat):Int)]⟩) s4=some (v,u):=e;match r,ho,hr,hh,hf4,two,hhc,hhb with
  |[],_,_,_,hf4,two,_,_=>
   refine two rfl (aY (c:=fun s=>s.is [101,108,115,101]) ?_ e);have hn4:Nx s4 (t1::R):=hf4.nx;rw[hn4.isA];unfold K5 at he;rw[lγ,Bool.not_eq_true']at he;exact he.2
  |[d],_,hr,hh,hf4,_,_,_=>
   have hhd:=Sw (op:=11) (c::b::[d]) 0 d (by simp);have hn4:Nx s4 (kw [101,108,115,101]::(bQ d.w++t1::R)):=by
    rw[<-NR (o:=[101,108,115,101]) (by simp)];exact hf4.nx
   replace e:=dF (bB hn4 (by kernel_rfl)) e;obtain⟨_,s5,e5,e⟩:=aa e;obtain⟨hn5,hm5⟩:=kx hn4 e5;have i5:=hm5.ne;obtain⟨z,s6,e6,e⟩:=aa e;obtain⟨rfl,hf6⟩:=hr d (by simp) q f s5 s6 z _ hn5 (by omega) (by omega) e6;have i6:=hf6.ne;obtain⟨rfl,hf⟩:=gu hf6.nx e;have i7:=hf.ne;have l5:s5.nd.length=s.nd.length+c.sz+b.sz:=by rw[hm5.nd,l4]
   refine⟨by rw[hf6.nd,lα,gB,l5];simp only[eR,Nat.add_zero,Nat.add_assoc],hf.nx,by omega,?_,?_⟩
   ·rw[hf.nd,hf6.nd,l5,hm5.nd,j4];simp only[iW,eJ,lν,lε]
   ·rw[hf.tt,hf6.tt,hm5.tt,t4]
 ·exact two rfl e
def ģ:∀(n:Nat) (t:Tr),t.sz<=n->Wf t->iD eV t->(mw t.op=true->ST t)/\(t.op=18->BT t)
 |0,t,h,_,_=>by have:=xl t;omega
 |n+1,.n op nm v ks,hsz,hw,hv=>by
  have hwf:=hw;simp only[Wf]at hw;simp only[iD]at hv;simp only[Tr.sz]at hsz;have kd:∀k∈ks,Wf k/\iD eV k/\(mw k.op=true->ST k)/\(k.op=18->BT k):=fun k hk=>by
   have h1:=vV hw.2.2 hk;have h2:=qo hv.2 hk;exact⟨h1,h2,ģ n k (by have:=Is hk;omega) h1 h2⟩
  have kex:(∀k∈ks,bo k.op=true)->Kd ks:=Kd.of hw.2.2 hv.2;have hk24:∀k∈ks,Dz op+hT k<=hT (.n op nm v ks):=fun k hk=>GV hk
  refine⟨fun ho=>?_,fun ho=>?_⟩
  ·intro q f s u w R t1 hn he h0 h24 e;have hsz1:s.nd.length+(Tr.n op nm v ks).sz - 1=s.nd.length+eR ks:=by simp only[Tr.sz];omega
   rw[hsz1];have ho':op=8\/op=9\/op=10\/op=11\/op=12\/op=13\/op=14\/op=15\/op=16\/op=17:=by
    simp only[Tr.op,mw,lγ,cn,lδ]at ho;omega
   clear ho;simp only[Tr.w,Tr.fl]at hn ⊢
   rcases ho' with rfl|rfl|rfl|rfl|rfl|rfl|rfl|rfl|rfl|rfl
   ·obtain⟨g1,g2,g3⟩:=cv8 hw.2.1;have hko:(Nat.beq (ks.map Tr.op).length 1&&(ks.map Tr.op).all m8)=true:=hw.1;rw[lγ,lζ]at hko;obtain⟨k,rfl⟩:=ĵ (lη hko.1);obtain⟨k1,k2,-⟩:=kd k (by simp);have hh:=hk24 k (by simp);have hop:Dz 8=0:=rfl;have hwd:bQ (bW 8 nm v (wL [k]))++t1::R=kw [108,101,116]::bD nm::sy [58]::bD (ct v.k)::sy [61]::(bQ k.w++sy [59]::(t1::R)):=by
     show bQ ([[108,101,116],nm,[58],ct v.k,[61]]++(k.w++[[59]]))++t1::R=_;rw[bd,bd,<-NR (o:=[108,101,116]) (by simp),<-C0 (o:=[58]) (by simp),<-C0 (o:=[61]) (by simp),<-C0 (o:=[59]) (by simp),lε,lε];rfl
    rw[hwd]at hn;replace e:=Ĥ hn e;obtain⟨_,s1,e1,e⟩:=aa e;obtain⟨hn1,hm1⟩:=kx hn e1;obtain⟨n',s2,e2,e⟩:=aa e;obtain⟨rfl,hn2,hm2⟩:=mP g1 hn1 e2;obtain⟨_,s3,e3,e⟩:=aa e;obtain⟨hn3,hm3⟩:=ez hn2 (by kernel_rfl) e3;obtain⟨k',s4,e4,e⟩:=aa e;obtain⟨rfl,hn4,hm4⟩:=zB g2 hn3 e4;obtain⟨x,s5,e5,e⟩:=aa e;have i1:=hm1.ne;have i2:=hm2.ne;have i3:=hm3.ne;have i4:=hm4.ne;obtain⟨rfl,hf5⟩:=TN k1 k2 (mG hko.2 k (by simp)) hn4 (by omega) (by omega) e5;obtain⟨rfl,hf6⟩:=oS hf5.nx e;have i5:=hf5.ne;have i6:=hf6.ne;have j4:s4.nd=s.nd:=by rw[hm4.nd,hm3.nd,hm2.nd,hm1.nd]
    refine⟨by rw[hf5.nd,lα,gB,j4];simp only[eR,Nat.add_zero],hf6.nx,by omega,?_,?_⟩
    ·rw[hf6.nd,hf5.nd,j4,<-g3];simp only[iW,eJ,lν,lε]
    ·rw[hf6.tt,hf5.tt,hm4.tt,hm3.tt,hm2.tt,hm1.tt]
   ·obtain⟨g1,rfl⟩:=cv9 hw.2.1;have hko:(Nat.beq (ks.map Tr.op).length 1&&(ks.map Tr.op).all m8)=true:=hw.1;rw[lγ,lζ]at hko;obtain⟨k,rfl⟩:=ĵ (lη hko.1);obtain⟨k1,k2,-⟩:=kd k (by simp);have hh:=hk24 k (by simp);have hop:Dz 9=0:=rfl;have hwd:bQ (bW 9 nm vz (wL [k]))++t1::R=bD nm::sy [61]::(bQ k.w++sy [59]::(t1::R)):=by
     show bQ ([nm,[61]]++(k.w++[[59]]))++t1::R=_;rw[bd,bd,<-C0 (o:=[61]) (by simp),<-C0 (o:=[59]) (by simp),lε,lε];rfl
    rw[hwd]at hn;replace e:=ĥ g1 hn e;obtain⟨n',s2,e2,e⟩:=aa e;obtain⟨rfl,hn2,hm2⟩:=mP g1 hn e2;obtain⟨x,s5,e5,e⟩:=aa e;have i2:=hm2.ne;obtain⟨rfl,hf5⟩:=TN k1 k2 (mG hko.2 k (by simp)) hn2 (by omega) (by omega) e5;obtain⟨rfl,hf6⟩:=oS hf5.nx e;have i5:=hf5.ne;have i6:=hf6.ne;refine⟨by rw[hf5.nd,lα,gB,hm2.nd];simp only[eR,Nat.add_zero],hf6.nx,by omega,?_,?_⟩
    ·rw[hf6.nd,hf5.nd,hm2.nd];simp only[iW,eJ,lν,lε]
    ·rw[hf6.tt,hf5.tt,hm2.tt]
   ·obtain⟨rfl,rfl⟩:=Zu (by simp) hw.2.1;have hko:(Nat.beq (ks.map Tr.op).length 1&&(ks.map Tr.op).all pN)=true:=hw.1;rw[lγ,lζ]at hko;obtain⟨k,rfl⟩:=ĵ (lη hko.1);obtain⟨k1,k2,-⟩:=kd k (by simp);have hh:=hk24 k (by simp);have hop:Dz 10=0:=rfl;have h7:=mG hko.2 k (by simp);cases k with
    |n op' nm' v' ks'=>
     have h7':op'=7:=by
      simp only[Tr.op,pN,bO,lδ]at h7;exact h7
     subst h7';simp only[Wf]at k1;simp only[iD]at k2;obtain⟨g1,g2,g3⟩:=cv7 k1.2.1;rw[g3]at hn hh h24 ⊢
     have hko2:((Nat.ble 1 (ks'.map Tr.op).length&&Nat.ble (ks'.map Tr.op).length 17)&&(ks'.map Tr.op).all bo)=true:=k1.1;simp only[lγ,lζ,Nat.ble_eq]at hko2;have hkd:=Kd.of k1.2.2 k2.2 (mG hko2.2);match ks',hko2,hkd,hn,hh,h24 with
     |[],hko2,_,_,_,_=>simp at hko2
     |k::ks',hko2,hkd,hn,hh,h24=>
      have hwd:bQ (bW 10 [] vz (wL [Tr.n 7 nm' ⟨0,0,v'.s,[],[]⟩ (k::ks')]))++t1::R=bQ (bW 7 nm' ⟨0,0,v'.s,[],[]⟩ (wL (k::ks')))++sy [59]::(t1::R):=by
       show bQ (bW 7 nm' ⟨0,0,v'.s,[],[]⟩ (wL (k::ks'))++[[59]])++t1::R=_;rw[bd,<-C0 (o:=[59]) (by simp),lε];rfl
      rw[hwd]at hn;have hn':Nx s (kw [99,97,108,108]::(bQ (bW 7 nm' ⟨0,0,v'.s,[],[]⟩ (wL (k::ks')))).tail++sy [59]::(t1::R)):=by
       rw[<-NR (o:=[99,97,108,108]) (by simp)];exact hn
      replace e:=WK hn' e;obtain⟨x,s1,e1,e⟩:=aa e;obtain⟨rfl,hf1⟩:=Kz g1 g2 hkd (by have:=hko2.1.2;simp at this;omega) hn h0 (by omega) e1;obtain⟨rfl,hf2⟩:=oS hf1.nx e;have i1:=hf1.ne;have i2:=hf2.ne;refine⟨?_,hf2.nx,by omega,?_,?_⟩
      ·rw[hf1.nd,lα,gB];simp only[eR,Nat.add_zero]
      ·rw[hf2.nd,hf1.nd];simp only[iW,eJ,lν,lε];rfl
      ·rw[hf2.tt,hf1.tt]
   ·obtain⟨rfl,rfl⟩:=Zu (by simp) hw.2.1;have hko:((Nat.ble 2 (ks.map Tr.op).length&&Nat.ble (ks.map Tr.op).length 3)&&(bo ((ks.map Tr.op).headD 0)&&((ks.map Tr.op).drop 1).all lb))=true:=hw.1;match ks,hko,kd,hn,h24,e with
    |[],hko,_,_,_,_=>cases hko
    |[a],hko,_,_,_,_=>cases hko
    |c::b::r,hko,kd,hn,h24,e=>
     simp only[lγ,lζ,Nat.ble_eq,List.length_cons,List.map_cons,List.headD_cons,List.drop_succ_cons,List.drop_zero,List.all_cons]at hko;obtain⟨⟨-,hl⟩,hce,hbe,hre⟩:=hko;obtain⟨c1,c2,-⟩:=kd c (by simp);obtain⟨b1,b2,-,b3⟩:=kd b (by simp);have hwd:bQ (bW 11 [] vz (wL (c::b::r)))++t1::R=kw [105,102]::sy [40]::(bQ c.w++sy [41]::(bQ b.w++(bQ (rS (wL r))++t1::R))):=by
      show bQ ([[105,102]]++(bp [c.w]++(b.w++rS (wL r))))++t1::R=_;rw[bd,bd,bd,lε,lε,oQ,wz,show bU 1 []=[]from rfl,lν,lε,<-NR (o:=[105,102]) (by simp)];rfl
     rw[hwd]at hn;replace e:=S_ hn e;obtain⟨_,s1,e1,e⟩:=aa e;obtain⟨hn1,hm1⟩:=kx hn e1;have i1:=hm1.ne;have hh:hT (.n 11 [] vz (c::b::r))=0+hL 11 0 (c::b::r):=by simp only[hT];rfl
     obtain⟨rfl,hf⟩:=KH (.inl ⟨rfl,by omega⟩) ⟨c1,c2,hce⟩ (b3 (B_ hbe)) (fun x hx=>(kd x (by simp[hx])).2.2.2 (B_ (mG hre x hx))) hn1 he (by omega) (by omega) e;refine⟨by rw[hm1.nd],hf.nx,by have:=hf.ne;omega,by rw[hf.nd,hm1.nd],hf.tt.trans hm1.tt⟩
   ·obtain⟨rfl,rfl⟩:=Zu (by simp) hw.2.1;have hko:(Nat.beq (ks.map Tr.op).length 2&&(bo ((ks.map Tr.op).headD 0)&&((ks.map Tr.op).drop 1).all lb))=true:=hw.1;rw[lγ,lζ]at hko;obtain⟨c,b,rfl⟩:=aeL (lη hko.1);have hko2:=hko.2;simp only[lγ,List.map_cons,List.map_nil,List.headD_cons,List.drop_succ_cons,List.drop_zero,List.all_cons,List.all_nil,Bool.and_true]at hko2;obtain⟨hce,hbe⟩:=hko2;obtain⟨c1,c2,-⟩:=kd c (by simp);obtain⟨b1,b2,-,b3⟩:=kd b (by simp);have hwd:bQ (bW 12 [] vz (wL [c,b]))++t1::R=kw [119,104,105,108,101]::sy [40]::(bQ c.w++sy [41]::(bQ b.w++(bQ (rS (wL []))++t1::R))):=by
     show bQ ([[119,104,105,108,101]]++(bp [c.w]++b.w))++t1::R=_;rw[bd,bd,lε,lε,oQ,wz,show bU 1 []=[]from rfl,lν,<-NR (o:=[119,104,105,108,101]) (by simp)];rfl
    rw[hwd]at hn;replace e:=QK hn e;obtain⟨_,s1,e1,e⟩:=aa e;obtain⟨hn1,hm1⟩:=kx hn e1;have i1:=hm1.ne;have hh:hT (.n 12 [] vz [c,b])=0+hL 12 0 [c,b]:=by simp only[hT];rfl
    obtain⟨rfl,hf⟩:=KH (.inr ⟨rfl,rfl⟩) ⟨c1,c2,hce⟩ (b3 (B_ hbe)) (fun x hx=>by cases hx) hn1 he (by omega) (by omega) e;refine⟨by rw[hm1.nd],hf.nx,by have:=hf.ne;omega,by rw[hf.nd,hm1.nd],hf.tt.trans hm1.tt⟩
   ·obtain⟨rfl,rfl⟩:=Zu (by simp) hw.2.1;have hko:(Nat.ble (ks.map Tr.op).length 1&&(ks.map Tr.op).all bo)=true:=hw.1;rw[lγ,lζ,Nat.ble_eq]at hko;have hop:Dz 13=0:=rfl;match ks,hko,kex,hk24,hn,h24 with
    |[],_,_,_,hn,h24=>
     have hwd:bQ (bW 13 [] vz (wL []))++t1::R=kw [114,101,116,117,114,110]::sy [59]::t1::R:=by
      rw[<-NR (o:=[114,101,116,117,114,110]) (by simp),<-C0 (o:=[59]) (by simp)];rfl
     rw[hwd]at hn;replace e:=ya hn e;obtain⟨_,s1,e1,e⟩:=aa e;obtain⟨hn1,hm1⟩:=kx hn e1;replace e:=dF (c:=fun s=>s.is [59]) (Fi hn1 (by kernel_rfl)) e;obtain⟨rfl,hf⟩:=oS hn1 e;exact⟨by rw[hm1.nd];rfl,hf.nx,by have:=hf.ne;have:=hm1.ne;omega,by rw[hf.nd,hm1.nd];rfl,hf.tt.trans hm1.tt⟩
    |[k],hko,kex,hk24,hn,h24=>
     obtain⟨k1,k2,k3⟩:=kex (mG hko.2) k (by simp);have hh:=hk24 k (by simp);have hwd:bQ (bW 13 [] vz (wL [k]))++t1::R=kw [114,101,116,117,114,110]::(bQ k.w++sy [59]::(t1::R)):=by
      show bQ ([[114,101,116,117,114,110]]++((k.w++[])++[[59]]))++t1::R=_;rw[lν,bd,bd,<-NR (o:=[114,101,116,117,114,110]) (by simp),<-C0 (o:=[59]) (by simp),lε,lε];rfl
     rw[hwd]at hn;replace e:=ya hn e;obtain⟨_,s1,e1,e⟩:=aa e;obtain⟨hn1,hm1⟩:=kx hn e1;replace e:=aY (c:=fun s=>s.is [59]) (YY k1 k2 k3 hn1 (by kernel_rfl)) e;have i1:=hm1.ne;obtain⟨x,s2,e2,e⟩:=aa e;obtain⟨rfl,hf2⟩:=wF k1 k2 k3 q f 0 s1 s2 x _ _ (by omega) hn1 (by kernel_rfl) (by kernel_rfl) (by omega) (by omega) e2;obtain⟨rfl,hf⟩:=oS hf2.nx e;have i2:=hf2.ne;refine⟨?_,hf.nx,by have:=hf.ne;omega,?_,?_⟩
     ·rw[hf2.nd,lα,gB,hm1.nd];simp only[eR,Nat.add_zero]
     ·rw[hf.nd,hf2.nd,hm1.nd];simp only[iW,eJ,lν,lε]
     ·rw[hf.tt,hf2.tt,hm1.tt]
    |a::b::r,hko,_,_,_,_=>simp at hko
   ·obtain⟨rfl,rfl⟩:=Zu (by simp) hw.2.1;obtain rfl:=ad2 hw.1;have hwd:bQ (bW 14 [] vz (wL []))++t1::R=kw [102,97,105,108]::sy [59]::t1::R:=by
     rw[<-NR (o:=[102,97,105,108]) (by simp),<-C0 (o:=[59]) (by simp)];rfl
    rw[hwd]at hn;exact aef (q:=q) hn (WM hn e)
   ·obtain⟨rfl,rfl⟩:=Zu (by simp) hw.2.1;obtain⟨hl,hke⟩:=afv rfl hw.1;have hop:Dz 15=1:=rfl;have hwd:bQ (bW 15 [] vz (wL ks))++t1::R=kw [101,109,105,116]::(bQ (bp (wL ks))++sy [59]::(t1::R)):=by
     show bQ ([[101,109,105,116]]++(bp (wL ks)++[[59]]))++t1::R=_;rw[bd,bd,<-NR (o:=[101,109,105,116]) (by simp),<-C0 (o:=[59]) (by simp),lε,lε];rfl
    rw[hwd]at hn;have hT1:1<=hT (.n 15 [] vz ks):=by simp only[hT,hop];omega
    exact CQ ks hl (kex hke) hn h0 (by omega) (fun k hk=>by have:=hk24 k hk;omega) (WL hn e)
   ·obtain⟨rfl,rfl⟩:=Zu (by simp) hw.2.1;obtain⟨hl,hke⟩:=afw rfl hw.1;have hop:Dz 16=1:=rfl;have hwd:bQ (bW 16 [] vz (wL ks))++t1::R=kw [114,101,109,105,110,100]::(bQ (bp (wL ks))++sy [59]::(t1::R)):=by
     show bQ ([[114,101,109,105,110,100]]++(bp (wL ks)++[[59]]))++t1::R=_;rw[bd,bd,<-NR (o:=[114,101,109,105,110,100]) (by simp),<-C0 (o:=[59]) (by simp),lε,lε];rfl
    rw[hwd]at hn;have hT1:1<=hT (.n 16 [] vz ks):=by simp only[hT,hop];omega
    exact CQ ks hl (kex hke) hn h0 (by omega) (fun k hk=>by have:=hk24 k hk;omega) (Nz hn e)
   ·obtain⟨rfl,rfl⟩:=Zu (by simp) hw.2.1;obtain⟨hl,hke⟩:=afu rfl hw.1;have hop:Dz 17=1:=rfl;have hwd:bQ (bW 17 [] vz (wL ks))++t1::R=kw [99,97,110,99,101,108]::(bQ (bp (wL ks))++sy [59]::(t1::R)):=by
     show bQ ([[99,97,110,99,101,108]]++(bp (wL ks)++[[59]]))++t1::R=_;rw[bd,bd,<-NR (o:=[99,97,110,99,101,108]) (by simp),<-C0 (o:=[59]) (by simp),lε,lε];rfl
    rw[hwd]at hn;have hT1:1<=hT (.n 17 [] vz ks):=by simp only[hT,hop];omega
    exact CQ ks hl (kex hke) hn h0 (by omega) (fun k hk=>by have:=hk24 k hk;omega) (Ny hn e)
  ·simp only[Tr.op]at ho;subst ho;obtain⟨rfl,rfl⟩:=Zu (by simp) hw.2.1;have hks:∀k∈ks,Wf k/\mw k.op=true:=fun k hk=>⟨(kd k hk).1,mG (p:=mw) hw.1 k hk⟩
   have hop:Dz 18=1:=rfl;have hT1:1<=hT (.n 18 [] vz ks):=by simp only[hT,hop];omega
   intro q f s u w R hn h0 h24 e;cases f with
   |zero=>cases e
   |succ f=>
    obtain⟨s3,s4,rfl,-,-,-,-,hl,hf⟩:=En (lim:= .ret ()) hks (fun k hk z u' v' t1 R' hz hnz he ee=>(kd k hk).2.2.1 (hks k hk).2 q f z u' v' R' t1 hnz he (by omega) (by have:=hk24 k hk;omega) ee) hn h0 (by omega) e;obtain⟨-,rfl⟩:=au hl;refine⟨?_,hf rfl⟩;simp only[Tr.sz];congr 1
def È (op:Int)(j:Nat):fiH op j<=1:=by
 unfold fiH;cases((eqI op 11||eqI op 12)&&Nat.beq j 0)<;>simp
def ac0 (op:Int):Dz op<=2:=by
 unfold Dz;cases eqI op 4<;>cases(eqI op 5||(eqI op 6||(eqI op 7||(eqI op 15||(eqI op 16||(eqI op 17||eqI op 18))))))<;>simp
mutual
def aaS:∀t:Tr,hT t<=3*t.sz
 | .n op nm v ks=>by
  have h1:=PG op ks 0;have h2:=ac0 op;simp only[hT,Tr.sz];omega
def PG (op:Int):∀(l:List Tr) (j:Nat),hL op j l<=3*eR l+1
 |[],j=>by simp only[hL];omega
 |t::r,j=>by
  have h1:=aaS t;have h2:=PG op r (j+1);have h3:=È op j;simp only[hL,eR];omega
end
def abn (hs:LI):Nat->List Tr->Prop
 |_,[]=>True
 |b,t::r=>hs[b+t.sz - 1]?=some (hT t:Int)/\abn hs (b+t.sz) r
def Õ (op:Int)(hs:LI):∀(l:List Tr) (b j m:Nat),abn hs b l->eR l<=1000000->m<=10000000->hK op hs (eJ b l) j (m:Int)=((max m (hL op j l):Nat):Int)
 |[],b,j,m,_,_,_=>by simp only[eJ,hK,hL,Nat.max_zero]
 |t::r,b,j,m,h,hs',hm=>by
  simp only[eR]at hs';have h1:=aaS t;have hg:hs.getD (b+t.sz - 1) 0=(hT t:Int):=by rw[lω,h.1];rfl
  have hw:ae .i64 ((hT t:Int)+1)=((hT t+1:Nat):Int):=by rw[cz (by omega) (by omega)];omega
  have hj:eqI (j:Int) 0=Nat.beq j 0:=by
   rw[bO,mε,lδ,Nat.beq_eq];omega
  have mx:∀x:Nat,(bif aO (m:Int) (x:Int)then(x:Int)else(m:Int))=((max m x:Nat):Int):=fun x=>by
   rw[cZ];by_cases hx:m<x
   ·rw[qδ (by omega),cond_true];omega
   ·rw[mρ (by omega),cond_false];omega
  simp only[eJ,hK,Int.toNat_natCast,hg,hw,hj,mx];have ih:=fun m' hm'=>Õ op hs r (b+t.sz) (j+1) m' h.2 (by omega) hm'
  have hf:(bif((eqI op 11||eqI op 12)&&Nat.beq j 0)then((max m (hT t+1):Nat):Int)else((max m (hT t):Nat):Int))=((max m (hT t+fiH op j):Nat):Int):=by
   unfold fiH;cases((eqI op 11||eqI op 12)&&Nat.beq j 0)<;>rfl
  have hfl:=È op j;rw[hf,ih _ (by omega)];simp only[hL];congr 1;omega
def Ô (op:Int)(m:Nat)(hm:m<=10000000):GU op (m:Int)=((Dz op+m:Nat):Int):=by
 have w2:ae .i64 ((m:Int)+2)=(m:Int)+2:=cz (by omega) (by omega);have w1:ae .i64 ((m:Int)+1)=(m:Int)+1:=cz (by omega) (by omega);unfold GU Dz;rw[w2,w1];cases eqI op 4<;>cases(eqI op 5||(eqI op 6||(eqI op 7||(eqI op 15||(eqI op 16||(eqI op 17||eqI op 18))))))<;>simp only[cond_true,cond_false]<;>omega
mutual
def aaR:∀(t:Tr) (b:Nat) (hs:LI),b+t.sz<=hs.length->t.sz<=1000000->∃hs':LI,(∀r,hN (t.fl b++r) b hs=hN r (b+t.sz) hs')/\hs'.length=hs.length/\(∀j<b,hs'[j]?=hs[j]?)/\hs'[b+t.sz - 1]?=some (hT t:Int)
 | .n op nm v ks,b,hs,hl,hm=>by
  simp only[Tr.sz]at hl hm;obtain⟨h1,e1,l1,k1,g1⟩:=Ö ks b hs (by omega) (by omega);have hk:=Õ op h1 ks b 0 0 g1 (by omega) (by omega);have hb:=PG op ks 0;have hv:GU op (hK op h1 (eJ b ks) 0 0)=(hT (.n op nm v ks):Int):=by
   have hk':hK op h1 (eJ b ks) 0 0=((max 0 (hL op 0 ks):Nat):Int):=hk;rw[hk',Nat.zero_max,Ô op _ (by omega)];simp only[hT]
  refine⟨h1.set (b+eR ks) (hT (.n op nm v ks):Int),fun r=>?_,by rw[List.length_set,l1],fun j hj=>?_,?_⟩
  ·simp only[Tr.fl,lε,List.singleton_append,Tr.sz];rw[e1];simp only[hN,hv];rfl
  ·rw[mψ (by omega),k1 j hj]
  ·simp only[Tr.sz];rw[show b+(eR ks+1) - 1=b+eR ks by omega,qη (by omega)]
def Ö:∀(l:List Tr) (b:Nat) (hs:LI),b+eR l<=hs.length->eR l<=1000000->∃hs':LI,(∀r,hN (iW l b++r) b hs=hN r (b+eR l) hs')/\hs'.length=hs.length/\(∀j<b,hs'[j]?=hs[j]?)/\abn hs' b l
 |[],b,hs,_,_=>⟨hs,fun r=>rfl,rfl,fun _ _=>rfl,trivial⟩
 |t::r,b,hs,hl,hm=>by
  simp only[eR]at hl hm;have hp:=xl t;obtain⟨h1,e1,l1,k1,g1⟩:=aaR t b hs (by omega) (by omega);obtain⟨h2,e2,l2,k2,g2⟩:=Ö r (b+t.sz) h1 (by omega) (by omega);refine⟨h2,fun r'=>?_,by omega,fun j hj=>by rw[k2 j (by omega),k1 j hj],⟨by rw[k2 _ (by omega),g1],g2⟩⟩
  simp only[iW,lε,eR];rw[e1,e2,Nat.add_assoc]
end
def VE {t:Tr}(h:t.sz<=1000000):cN (t.fl 0)=(hT t:Int):=by
 have hp:=xl t;obtain⟨hs,e,l,-,g⟩:=aaR t 0 (List.replicate t.sz 0) (by rw[List.length_replicate];omega) h;have e0:=e [];rw[lν]at e0;unfold cN;rw[gB,e0,lω];rw[Nat.zero_add]at g;show(hs[t.sz - 1]?).getD 0=_;rw[g];rfl
instance:Inhabited Tr:=⟨.n 0 [] vz []⟩
def ő (ns:List No)(t:Tr):Prop:=DI ns t 0/\t.sz=ns.length/\Wf t
def nz (ns:List No):Tr:=Classical.epsilon (ő ns)
variable {ns:List No}
def RK (h:∃t,ő ns t):ő ns (nz ns):=Classical.epsilon_spec h
def kO (f:Fe):List LN:=[[115,116,97,116,101],f.name,[58],ct f.kind,[61]]++(kL f.init++[[59]])
def mu (q:Pa):List LN:=[q.name,[58],ct q.kind]
def tj (k:Int):List LN:=bif eqI k 0 then[]else[[58],ct k]
def ll (m:Me):List LN:=[[109,101,116,104,111,100],m.name]++(bp (m.params.map mu)++(tj m.result++(nz m.nodes).w))
def m4 (a:Ac):List LN:=[[97,99,116,111,114],a.name,[123]]++(aF (a.fields.map kO)++(aF (a.methods.map ll)++[[125]]))
def fE (p:List Ac):List LN:=aF (p.map m4)
structure aag (f:Fe):Prop where
 c:nh f.init
 k:1<=f.kind/\f.kind<=5
structure aah (m:Me):Prop where
 ps:m.params.length<=100
 pk:∀q∈m.params,1<=q.kind/\q.kind<=5
 re:m.result=0\/1<=m.result/\m.result<=5
 nl:m.nodes.length<=2000
 bt:∃t,ő m.nodes t
 vo:∀x∈m.nodes,Rz x
structure Q1 (a:Ac):Prop where
 fl:a.fields.length<=100
 fs:∀f∈a.fields,aag f
 ml:a.methods.length<=100
 ms:∀m∈a.methods,aah m
def Lk {m:Nat}(T:LD)(nT iT:Int)(A:ba)(fs:List Fe)(nd:List No)(hf:∀f∈fs,aag f)(hm:110<=m)(hb:fs.length<bX)(k0:LD×Int×Int×LD×Int×Int×Bool×Nat×LD×LD×ba->R):∀(r:List Fe) (q i:Nat) (o:LN),fs.drop i=r->r.length<q->i<=fs.length->o.length+(av (aF (r.map kO))).length<cm->
  itL (fO (cE lay0.tab m) m k0) q (T,nT,iT,fs.map Fe.e,(fs.length:Int),(i:Int),(Wb o nd).bu,(Wb o nd).ns,(Wb o nd).ou,A)=k0 (T,nT,iT,fs.map Fe.e,(fs.length:Int),(fs.length:Int),false,(Wb (o++av (aF (r.map kO))) nd).bu,(Wb (o++av (aF (r.map kO))) nd).ns,(Wb (o++av (aF (r.map kO))) nd).ou,A)
 |[],q,i,o,hd,hq,hi,hl=>by
  cases q with
  |zero=>simp at hq
  |succ q=>
   have hil:i=fs.length:=by
    have:=congrArg List.length hd;simp at this;omega
   subst hil;rw[aM];simp only[fO,dJ,aG,aF,List.map_nil,av,lν]
 |f::r,q,i,o,hd,hq,hi,hl=>by
  cases q with
  |zero=>simp at hq
  |succ q=>
   have hlt:i<fs.length:=by
    rcases lυ i fs.length with h|h
    ·exact h
    ·rw[mτ h]at hd;cases hd
   rw[lι hlt]at hd;injection hd with ht hd;have hok:=hf f (ht▸lπ hlt);simp only[List.length_cons]at hq;simp only[List.map_cons,aF,aJ,kO,lα]at hl;have e0:=evC_known (oc (m:=m) f.kind (by omega) hok.k);have e1:=gN (m:=m) [[115,116,97,116,101],f.name,[58],ct f.kind,[61]] o nd (by omega) (by simp) (by omega);have e2:=evC_known (xv (m:=m) f.init hok.c (o++av [[115,116,97,116,101],f.name,[58],ct f.kind,[61]]) nd (by omega) (by rw[lα];omega));have e3:=gN (m:=m) [[59]] (o++av [[115,116,97,116,101],f.name,[58],ct f.kind,[61]]++av (kL f.init)) nd (by omega) (by simp) (by simp only[lα];omega);have ih:=Lk T nT iT A fs nd hf hm hb k0 r q (i+1) (o++av [[115,116,97,116,101],f.name,[58],ct f.kind,[61]]++av (kL f.init)++av [[59]]) hd (by omega) hlt (by simp only[lα];omega);simp only[List.map_cons,List.map_nil]at e1 e3;have hw:(cG.mk (Wb o nd).bu (Wb o nd).ns (Wb o nd).ou)=Wb o nd:=rfl;have hat:cp (fs.map Fe.e) (i:Int)=some f.e:=by rw[bg,bI hlt,ht];rfl
   have hfin:o++av [[115,116,97,116,101],f.name,[58],ct f.kind,[61]]++av (kL f.init)++av [[59]]++av (aF (r.map kO))=o++av (aF ((f::r).map kO)):=by
    simp only[List.map_cons,aF,aJ,kO,lε]
   rw[hfin]at ih;rw[aM];simp -implicitDefEqProofs only[fO,fd (show((i:Int)<(fs.length:Int)) by omega),az,hat,bH,dFe,show f.r.Kind=f.kind from rfl,show f.r.Name=f.name from rfl,e0,aE,fo,ah,hw,e1,aL,cF];refine(e2 _).trans ?_;simp -implicitDefEqProofs only[aL,ah,cF,e3,wS (show i<bX by omega)];exact ih
variable {m:Nat}
def aba (x:Me)(nd:List No)(j:Nat)(h:j<x.params.length)(o:LN)(hm:15<=m)(hk:1<=x.params[j].kind/\x.params[j].kind<=5)(hl:o.length+(av (mu x.params[j])).length<cm):
  Ω m 26 [pI (j:Int),.box 0 0,.box 3 0] [.box [.box 1 0],.box [.box 1 0,.arr 2 0 (Wb o nd).bu 1,pL 8 (Wb o nd).ns],.byt (Wb o nd).ou,x.r.b]=some (.tup [],(ō.mk (Wb (o++av (mu x.params[j])) nd).bu (Wb (o++av (mu x.params[j])) nd).ns x.r.Name x.r.Params x.r.Result x.r.Nodes (Wb (o++av (mu x.params[j])) nd).ou).hp):=by
 replace hm:=aH hm;obtain⟨m,rfl,hm⟩:=hm;refine OH m (PwQ.mk (Wb o nd).bu (Wb o nd).ns (Wb o nd).ou x.r.Name x.r.Params x.r.Result x.r.Nodes) (j:Int) _ ?_;unfold zR;have hw:(cG.mk (Wb o nd).bu (Wb o nd).ns (Wb o nd).ou)=Wb o nd:=rfl;have hat:cp x.r.Params (j:Int)=some x.params[j].e:=by show cp (x.params.map Pa.e) (j:Int)=_;rw[bg,bI h];rfl
 have e0:=evC_known (oc (m:=m) x.params[j].kind (by omega) hk);have e1:=gN (m:=m) (mu x.params[j]) o nd (by omega) (by simp[mu]) hl;simp only[mu,List.map_cons,List.map_nil]at e1;simp -implicitDefEqProofs only[hat,bH,dPa,show x.params[j].r.Kind=x.params[j].kind from rfl,show x.params[j].r.Name=x.params[j].name from rfl,e0,aE,fo,ah,hw,e1,aL,cF,mu]
def BK {m:Nat}(T:LD)(nT iT:Int)(ms:List Me)(hf:∀x∈ms,aah x)(hm:20000<=m)(hb:ms.length<bX)(k0:LD×Int×Int×LD×Int×Int×Bool×Nat×LD×LD->R)(Z:R):∀(r:List Me) (q i:Nat) (o:LN) (nd:List No),ms.drop i=r->r.length<q->i<=ms.length->o.length+(av (aF (r.map ll))).length<cm->
  (∀nd',k0 (T,nT,iT,ms.map Me.e,(ms.length:Int),(ms.length:Int),false,(Wb (o++av (aF (r.map ll))) nd').bu,(Wb (o++av (aF (r.map ll))) nd').ns,(Wb (o++av (aF (r.map ll))) nd').ou)=Z)->
  itL (eF (cE lay0.tab m) m k0) q (T,nT,iT,ms.map Me.e,(ms.length:Int),(i:Int),(Wb o nd).bu,(Wb o nd).ns,(Wb o nd).ou)=Z
 |[],q,i,o,nd,hd,hq,hi,hl,hz=>by
  cases q with
  |zero=>simp at hq
  |succ q=>
   have hil:i=ms.length:=by
    have:=congrArg List.length hd;simp at this;omega
   subst hil;rw[aM];simp only[eF,dJ,aG];have:=hz nd;simp only[aF,List.map_nil,av,lν]at this;exact this
 |x::r,q,i,o,nd,hd,hq,hi,hl,hz=>by
  cases q with
  |zero=>simp at hq
  |succ q=>
   have hlt:i<ms.length:=by
    rcases lυ i ms.length with h|h
    ·exact h
    ·rw[mτ h]at hd;cases hd
   rw[lι hlt]at hd;injection hd with ht hd;have hok:=hf x (ht▸lπ hlt);simp only[List.length_cons]at hq;simp only[List.map_cons,aF,aJ,ll,lα]at hl;have hps:=hok.ps;have e1:=gN (m:=m) [[109,101,116,104,111,100],x.name] o nd (by omega) (by simp) (by omega);have e2:=ŗ (m:=m) x nd (x.params.map mu) (o++av [[109,101,116,104,111,100],x.name]) (by rw[lζ];omega) (by rw[lζ];unfold bX;omega) (by rw[lα];omega) (fun j hj o' ho=>by
    rw[lζ]at hj;rw[List.getElem_map]at ho ⊢
    exact aba x nd j hj o' (by omega) (hok.pk _ (lπ hj)) ho)
   rw[lζ]at e2;have e2:=evC_known e2;have hbt:=RK hok.bt;have htr:=Xf x.nodes (nz x.nodes) 0 m hbt.1 hbt.2.2 (Gb (fun _ _ _ _ _ h=>h) hok.vo _ _ hbt.1) (by have:=hok.nl;have:=hbt.2.1;omega) (by have:=hok.nl;have:=hbt.2.1;omega);have hne:1<=x.nodes.length:=by have:=xl (nz x.nodes);have:=hbt.2.1;omega
   have hix:ae .i64 ((x.nodes.length:Int) - 1)=((0+(nz x.nodes).sz - 1:Nat):Int):=by
    rw[hbt.2.1];have:=hok.nl;rw[cz (by omega) (by omega)];omega
   simp only[List.map_cons,List.map_nil]at e1;have hw:∀o nd,(cG.mk (Wb o nd).bu (Wb o nd).ns (Wb o nd).ou)=Wb o nd:=fun _ _=>rfl
   have hat:cp (ms.map Me.e) (i:Int)=some x.e:=by rw[bg,bI hlt,ht];rfl
   have hw2:∀o nd,(cG.mk (Wb o nd).bu x.r.Nodes (Wb o nd).ou)=Wb o x.nodes:=fun _ _=>rfl
   rw[aM];simp -implicitDefEqProofs only[eF,fd (show((i:Int)<(ms.length:Int)) by omega),az,hat,bH,dMe,show x.r.Name=x.name from rfl,hw,e1,aL,ah,cF,show x.r.Params.length=x.params.length from lζ _];refine(e2 _).trans ?_;simp -implicitDefEqProofs only[aL,ah,afh,show x.r.Result=x.result from rfl,hw,hw2,show x.r.Nodes.length=x.nodes.length from lζ _,hix,wS (show i<bX by omega)];cases hr:eqI x.result 0 with
   |true=>
    have hre:tj x.result=[]:=by unfold tj;rw[hr];rfl
    rw[hre,show av ([]:List LN)=[]from rfl,List.length_nil]at hl;have e3:=evC_known (htr (o++av [[109,101,116,104,111,100],x.name]++av (bp (x.params.map mu))) (by simp only[lα];omega));simp -implicitDefEqProofs only[Bool.not_true,aG,e3,aL,ah,cF];refine BK T nT iT ms hf hm hb k0 Z r q (i+1) _ x.nodes hd (by omega) hlt (by simp only[lα];omega) (fun nd'=>?_);have:=hz nd';simp only[List.map_cons,aF,aJ,ll,hre,show av ([]:List LN)=[]from rfl,List.nil_append,lε]at this ⊢
    exact this
   |false=>
    have hre:tj x.result=[[58],ct x.result]:=by unfold tj;rw[hr];rfl
    rw[hre]at hl;have hkr:1<=x.result/\x.result<=5:=by
     rcases hok.re with h|h
     ·rw[h]at hr;cases hr
     ·exact h
    have e0:=evC_known (oc (m:=m) x.result (by omega) hkr);have e4:=gN (m:=m) [[58],ct x.result] (o++av [[109,101,116,104,111,100],x.name]++av (bp (x.params.map mu))) nd (by omega) (by simp) (by simp only[lα];omega);have e3:=evC_known (htr (o++av [[109,101,116,104,111,100],x.name]++av (bp (x.params.map mu))++av [[58],ct x.result]) (by simp only[lα];omega));simp only[List.map_cons,List.map_nil]at e4;have hw3:∀o nd,({Wb o nd with ns:=x.r.Nodes}:cG)=Wb o x.nodes:=fun _ _=>rfl
    simp -implicitDefEqProofs only[Bool.not_false,az,e0,aE,fo,ah,e4,aL,cF,hw2,e3];refine BK T nT iT ms hf hm hb k0 Z r q (i+1) _ x.nodes hd (by omega) hlt (by simp only[lα];omega) (fun nd'=>?_);have:=hz nd';simp only[List.map_cons,aF,aJ,ll,hre,lε]at this ⊢
    exact this
def afc (c:zg)(K:zg->R):aaI c.hp K=K c:=rfl
def afe (c:PwD)(K:PwD->R):aaK c.hp K=K c:=rfl
def T6 (o:LN)(nd:List No)(hb:By o)(ho:o≠[])(hm:1<=m)(hl:o.length<cm):Ω m 28 [.box 0 0] (Wb o nd).hp=some (pS o,(PwD.mk o.length (nd.map No.e)).hp):=by
 replace hm:=aH hm;obtain⟨m,rfl,hm⟩:=hm;refine OJ m (Wb o nd) _ ?_;unfold zT;have hpos:0<o.length:=List.length_pos_iff.2 ho;have h0:Nat.beq (Wb o nd).bu 0=false:=by
  show Nat.beq o.length 0=false;cases h:Nat.beq o.length 0 with
  |false=>rfl
  |true=>have:=lη h;omega
 have h1:(Nat.beq 0 0&&(aS 1 ((Wb o nd).bu:Int)&&aS ((Wb o nd).bu:Int) 9223372036854775807&&Nat.ble (0+Int.toNat ((Wb o nd).bu:Int)) (List.length (Wb o nd).ou)))=true:=by
  show(Nat.beq 0 0&&(aS 1 (o.length:Int)&&aS (o.length:Int) 9223372036854775807&&Nat.ble (0+Int.toNat (o.length:Int)) (o.map tv).length))=true;rw[ji (by omega),ji (by unfold cm at hl;omega),lζ,Int.toNat_natCast,Nat.zero_add];simp
 have h2:cX (List.take (Int.toNat ((Wb o nd).bu:Int)) (List.drop 0 (Wb o nd).ou))=some o:=by
  show cX (List.take (Int.toNat (o.length:Int)) (List.drop 0 (o.map tv)))=some o;rw[Int.toNat_natCast,List.drop_zero,mβ (by rw[lζ];exact Nat.le_refl _)];exact AW o hb
 rw[h0,aG,h1,az,h2,bH];rfl
def T5 (ns:LD)(hm:1<=m):Ω m 28 [.box 0 0] (zg.mk ns).hp=some (pS [],(zg.mk ns).hp):=by
 replace hm:=aH hm;obtain⟨m,rfl,hm⟩:=hm;exact OI m (zg.mk ns) _ rfl
def Kf (T:LD)(nT iT:Int)(a:Ac)(h:Q1 a)(hm:20000<=m)(Y:LD×Int×Int×Nat×LD×LD->R)(Z:R)(o:LN)(nd:List No)(hl:o.length+((av (aF (a.fields.map kO))).length+((av (aF (a.methods.map ll))).length+(av [[125]]).length))<cm)(hz:∀nd',Y (T,nT,ae .i64 (iT+1),(Wb (o++av (aF (a.fields.map kO))++av (aF (a.methods.map ll))++av [[125]]) nd').bu,(Wb (o++av (aF (a.fields.map kO))++av (aF (a.methods.map ll))++av [[125]]) nd').ns,(Wb (o++av (aF (a.fields.map kO))++av (aF (a.methods.map ll))++av [[125]]) nd').ou)=Z):
  itL (fO (cE lay0.tab m) m (fun(l111,i112,i113,l114,i115,i116,b117,n118,l119,l120,u121)=>itL (eF (cE lay0.tab m) m (fun(l122,i123,i124,l125,i126,i127,b128,n129,l130,l131)=>cE lay0.tab m 22 [(.box 0 0),(pL 1 [Da.str [125]])] (cG.mk n129 l130 l131).hp fun d132 o133=>aI d132 fun r134=>ag r134<|bh o133 fun u135=>Y (l122,i123,ae .i64 (i124+1),u135.bu,u135.ns,u135.ou))) m (l111,i112,i113,u121.Methods,↑(List.length u121.Methods),0,n118,l119,l120))) m (T,nT,iT,a.r.Fields,↑(List.length a.r.Fields),0,(Wb o nd).bu,(Wb o nd).ns,(Wb o nd).ou,a.r)=Z:=by
 have hf:=h.fl;have hml:=h.ml;have rf:a.r.Fields=a.fields.map Fe.e:=rfl;have rm:a.r.Methods=a.methods.map Me.e:=rfl;rw[rf,lζ];refine(Lk T nT iT a.r a.fields nd h.fs (by omega) (by unfold bX;omega) _ a.fields m 0 o rfl (by omega) (Nat.zero_le _) (by omega)).trans ?_;show itL (eF (cE lay0.tab m) m _) m (T,nT,iT,a.r.Methods,↑(List.length a.r.Methods),0,_,_,_)=Z;rw[rm,lζ];refine BK T nT iT a.methods h.ms hm (by unfold bX;omega) _ Z a.methods m 0 (o++av (aF (a.fields.map kO))) nd rfl (by omega) (Nat.zero_le _) (by rw[lα];omega) (fun nd'=>?_);have e:=gN (m:=m) [[125]] (o++av (aF (a.fields.map kO))++av (aF (a.methods.map ll))) nd' (by omega) (by simp) (by simp only[lα];omega);simp only[List.map_cons,List.map_nil]at e;have hw:∀o nd,(cG.mk (Wb o nd).bu (Wb o nd).ns (Wb o nd).ou)=Wb o nd:=fun _ _=>rfl
 simp -implicitDefEqProofs only[hw,e,aL,ah,cF];exact hz nd'
def Kg {m:Nat}(p:List Ac)(hf:∀a∈p,Q1 a)(hm:20000<=m)(hb:p.length<bX)(k0:LD×Int×Int×Bool×Nat×LD×LD->R)(Z:R):∀(r:List Ac) (q i:Nat) (o:LN) (nd:List No),p.drop i=r->r.length<q->i<=p.length->o.length+(av (aF (r.map m4))).length<cm->
  (∀nd',k0 (p.map Ac.e,(p.length:Int),(p.length:Int),false,(Wb (o++av (aF (r.map m4))) nd').bu,(Wb (o++av (aF (r.map m4))) nd').ns,(Wb (o++av (aF (r.map m4))) nd').ou)=Z)->
  itL (fP (cE lay0.tab m) m k0) q (p.map Ac.e,(p.length:Int),(i:Int),(Wb o nd).bu,(Wb o nd).ns,(Wb o nd).ou)=Z
 |[],q,i,o,nd,hd,hq,hi,hl,hz=>by
  cases q with
  |zero=>simp at hq
  |succ q=>
   have hil:i=p.length:=by
    have:=congrArg List.length hd;simp at this;omega
   subst hil;rw[aM];simp only[fP,dJ,aG];have:=hz nd;simp only[aF,List.map_nil,av,lν]at this;exact this
 |a::r,q,i,o,nd,hd,hq,hi,hl,hz=>by
  cases q with
  |zero=>simp at hq
  |succ q=>
   have hlt:i<p.length:=by
    rcases lυ i p.length with h|h
    ·exact h
    ·rw[mτ h]at hd;cases hd
   rw[lι hlt]at hd;injection hd with ht hd;have hok:=hf a (ht▸lπ hlt);simp only[List.length_cons]at hq;simp only[List.map_cons,aF,aJ,m4,lα]at hl;have e1:=gN (m:=m) [[97,99,116,111,114],a.name,[123]] o nd (by omega) (by simp) (by omega);simp only[List.map_cons,List.map_nil]at e1;have hw:∀o nd,(cG.mk (Wb o nd).bu (Wb o nd).ns (Wb o nd).ou)=Wb o nd:=fun _ _=>rfl
   have hat:cp (p.map Ac.e) (i:Int)=some a.e:=by rw[bg,bI hlt,ht];rfl
   rw[aM];simp -implicitDefEqProofs only[fP,fd (show((i:Int)<(p.length:Int)) by omega),az,hat,bH,dAc,show a.r.Name=a.name from rfl,hw,e1,aL,ah,cF];refine Kf (p.map Ac.e) (p.length:Int) (i:Int) a hok hm (itL (fP (cE lay0.tab m) m k0) q) Z (o++av [[97,99,116,111,114],a.name,[123]]) nd (by rw[lα];omega) (fun nd'=>?_);rw[wS (show i<bX by omega)];refine Kg p hf hm hb k0 Z r q (i+1) _ nd' hd (by omega) hlt (by simp only[lα];omega) (fun nd2=>?_);have:=hz nd2;simp only[List.map_cons,aF,aJ,m4,lε]at this ⊢
   exact this
def W5 (p:List Ac)(hv:Ω m 9 [.p (.agg [.slice 3 (p.map Ac.e)])] []=some (pB true,[]))(hf:∀a∈p,Q1 a)(hp:p.length<=100)(hm:20001<=m)(hby:By (av (fE p)))(hl:(av (fE p)).length<cm):
  Ω (m+1) 10 [.p (.agg [.slice 3 (p.map Ac.e)])] []=some (pS (av (fE p)),[]):=by
 refine UB m ⟨p.map Ac.e⟩ _ ?_;unfold DW;have hv':Ω m 9 [.p (bL.mk (p.map Ac.e)).e] []=some (pB true,[]):=hv;simp -implicitDefEqProofs only[evC_known hv',aE,aj,ah,Bool.not_true,aG];obtain⟨m,rfl⟩:∃k,m=k+1:=⟨m - 1,by omega⟩
 rw[aeh,lζ];cases p with
 |nil=>
  have e:=evC_known (T5 (m:=m+1) [] (by omega));simp -implicitDefEqProofs only[List.map_nil,List.length_nil,show aO 0 ((0:Nat):Int)=false from rfl,aG,e,aE,fo,afc];rfl
 |cons a r=>
  have hok:=hf a (by simp);have hl':=hl;simp only[fE,List.map_cons,aF,aJ,m4,lα]at hl';simp only[List.length_cons]at hp;have e1:=abb (m:=m+1) [97,99,116,111,114] a.name [123] [] (by omega) (by omega);have e1:=evC_known e1;have hat:cp ((a::r).map Ac.e) 0=some a.e:=rfl;rw[fd (by simp only[List.length_cons];omega),az];simp -implicitDefEqProofs only[hat,bH,dAc,show a.r.Name=a.name from rfl];refine(e1 _).trans ?_;simp -implicitDefEqProofs only[aL,ah,cF];have hfin:av [[97,99,116,111,114],a.name,[123]]++av (aF (a.fields.map kO))++av (aF (a.methods.map ll))++av [[125]]++av (aF (r.map m4))=av (fE (a::r)):=by
   simp only[fE,List.map_cons,aF,aJ,m4,lε]
  refine Kf ((a::r).map Ac.e) (((a::r).length:Nat):Int) 0 a hok (by omega) (itL (fP (cE lay0.tab (m+1)) (m+1) _) m) _ (av [[97,99,116,111,114],a.name,[123]]) [] (by omega) (fun nd'=>?_);rw[show ae .i64 (0+1)=((1:Nat):Int)from cz (by decide) (by decide)];refine Kg (a::r) hf (by omega) (by unfold bX;simp only[List.length_cons];omega) _ _ r m 1 _ nd' rfl (by omega) (by simp) (by simp only[lα];omega) (fun nd2=>?_);have hw:∀o nd,(cG.mk (Wb o nd).bu (Wb o nd).ns (Wb o nd).ou)=Wb o nd:=fun _ _=>rfl
  rw[hfin];have hne:av (fE (a::r))≠[]:=by
   rw[<-hfin];simp[av]
  have e9:=evC_known (T6 (m:=m+1) (av (fE (a::r))) nd2 hby hne (by omega) hl);simp -implicitDefEqProofs only[hw,e9,aE,fo,afe]
def Sm.tr {a b c:PS}(h:Sm a b 0)(g:Sm b c 0):Sm a c 0:=⟨by have:=h.ne;have:=g.ne;omega,g.nd.trans h.nd,g.tt.trans h.tt⟩
def Cw (s:PS):Sm s s.up 0:=⟨(Int.add_zero _).symm,rfl,rfl⟩
def Hx {s:PS}{t t':Tk}{R:List Tk}(h:Nx s (t::R))(hp:bc t=true)(e:jk t.k s=some (t',s')):t'.s=t.s/\t'.n=t.n/\Nx s' R/\Sm s s' 0:=by
 obtain⟨-,e⟩:=bb e;unfold PS.take at e;obtain⟨a1,a2,a3⟩:=h.k hp;rw[a1,show eqI t.k t.k=true from eqT rfl,cond_true]at e;injection e with e1 e2;subst e1 e2;exact⟨a2,a3,h.up,Cw s⟩
def SE {i:Int}(h: -9223372036854775808<i/\i<=9223372036854775807):(i<0/\bQ (iA i)=[sy [45],⟨3,ew (-i),-i,0⟩])\/(0<=i/\bQ (iA i)=[⟨3,ew i,i,0⟩]):=by
 unfold iA;by_cases h0:i<0
 ·left;rw[fd h0,cond_true];refine⟨h0,?_⟩;show[bD [45],bD (ew (-i))]=_;rw[(CP (show 0<= -i by omega) (by omega)).2,(Iw (o:=[45]) (by simp)).1]
 ·right;rw[tz h0,cond_false];refine⟨by omega,?_⟩
  show[bD (ew i)]=_;rw[(CP (show 0<=i by omega) (by omega)).2]
def SD {s u:PS}{n i:Int}{R:List Tk}(h: -9223372036854775808<i/\i<=9223372036854775807)(hn:Nx s (bQ (iA i)++R))(e:pInt s=some (n,u)):n=i/\Nx u R/\Sm s u 0:=by
 rcases SE h with⟨h0,ht⟩|⟨h0,ht⟩
 ·rw[ht]at hn;replace e:=dF (c:=fun s=>s.is [45]) (Fi hn (by rfl)) e;obtain⟨_,s1,e1,e⟩:=aa e;obtain⟨hn1,hm1⟩:=kx hn e1;obtain⟨t,s2,e2,e⟩:=aa e;obtain⟨rfl,rfl⟩:=au e;obtain⟨-,h2,h3,h4⟩:=Hx (t:=⟨3,ew (-i),-i,0⟩) hn1 (ji (show(0:Int)<= -i by omega)) e2;refine⟨?_,h3,hm1.tr h4⟩;rw[h2];show ae .i64 (0 - -i)=i;rw[cz (by omega) (by omega)];omega
 ·rw[ht]at hn;replace e:=aY (c:=fun s=>s.is [45]) ((hn.isA _).trans (Ht (.inl rfl))) e;obtain⟨t,s2,e2,e⟩:=aa e;obtain⟨rfl,rfl⟩:=au e;obtain⟨-,h2,h3,h4⟩:=Hx (t:=⟨3,ew i,i,0⟩) hn (ji h0) e2;simp_all
def PJ {s:PS}{i:Int}{R:List Tk}(h: -9223372036854775808<i/\i<=9223372036854775807)(hn:Nx s (bQ (iA i)++R)):(s.is [45]||eqI (s.peek 0).k 3)=true/\eqI (s.peek 0).k 4=false/\∀x,bv x [45]=false->s.is x=false:=by
 rcases SE h with⟨h0,ht⟩|⟨h0,ht⟩
 ·rw[ht]at hn;replace hn:Nx s (sy [45]::⟨3,ew (-i),-i,0⟩::R):=hn;refine⟨by rw[Fi hn (x:=[45]) (b:=true) (by kernel_rfl)];rfl,by rw[(hn.k (by kernel_rfl)).1];rfl,fun x hx=>?_⟩
  rw[hn.isA];unfold eB;rw[show bv [45] x=bv x [45] by rw[ec,ec,mε,lδ,lδ];exact eq_comm,hx,Bool.and_false,Bool.and_false]
 ·rw[ht]at hn;replace hn:Nx s (⟨3,ew i,i,0⟩::R):=hn;have hk:=(hn.k (t:=⟨3,ew i,i,0⟩) (ji h0)).1;refine⟨by rw[hk];exact Bool.or_true _,by rw[hk];rfl,fun x hx=>?_⟩
  rw[hn.isA];exact Ht (.inl rfl)
def Iy {t:LN}(h:By t/\t.length<=64):bQ [gv t]=[⟨4,t,0,0⟩]:=by
 show[bD (gv t)]=_;rw[(IA h.1 h.2).2]
def ϔ {s u:PS}{v v':Va}{R:List Tk}(hv:kE v=true)(hk:1<=v.k/\v.k<=5)(hc:nh v)(hn:Nx s (bQ (kL v)++sy [59]::R))(e:oX q s=some (v',u)):v'=v/\Nx u (sy [59]::R)/\Sm s u 0/\cY v.k s=true:=by
 obtain⟨-,-,c1,c2,c3,c4⟩:=ry hv;obtain⟨k,n,t,I,L⟩:=v;simp at hk c1 c2 c3 c4;have hk':k=1\/k=2\/k=3\/k=4\/k=5:=by omega
 rcases hk' with rfl|rfl|rfl|rfl|rfl
 ·obtain rfl:=c2.resolve_right (by omega);obtain rfl:=c3.resolve_right (by omega);obtain rfl:=c4.resolve_right (by omega);obtain⟨h1,h2,h3⟩:=PJ hc.n hn;have hf:cY 1 s=true:=h1;replace e:=aY (c:=fun s=>s.is [115,116,114,105,110,103,115]) (h3 _ (by rfl)) (aY (c:=fun s=>s.is [105,110,116,115]) (h3 _ (by rfl)) (aY (c:=fun s=>s.is [102,97,108,115,101]) (h3 _ (by rfl)) (aY (c:=fun s=>s.is [116,114,117,101]) (h3 _ (by rfl)) (aY (c:=fun s=>eqI (s.peek 0).k 4) h2 e))));obtain⟨m,s1,e1,e⟩:=aa e;obtain⟨rfl,rfl⟩:=au e;obtain⟨rfl,g1,g2⟩:=SD hc.n hn e1;exact⟨rfl,g1,g2,hf⟩
 ·obtain rfl:=c2.resolve_right (by omega);obtain rfl:=c3.resolve_right (by omega);obtain rfl:=c4.resolve_right (by omega);obtain⟨b,rfl⟩:∃b:Bool,n=bif b then 1 else 0:=by
   simp_all
  have hw:bQ (kL ⟨2,bif b then 1 else 0,[],[],[]⟩)=[kw (bif b then[116,114,117,101]else[102,97,108,115,101])]:=by cases b<;>kernel_rfl
  rw[hw]at hn;have h4:eqI (s.peek 0).k 4=false:=by
   rw[(hn.k (by cases b<;>kernel_rfl)).1];rfl
  replace e:=aY (c:=fun s=>eqI (s.peek 0).k 4) h4 e;cases b with
  |true=>
   have ht:=bB hn (x:=[116,114,117,101]) (b:=true) (by rfl);replace e:=dF (c:=fun s=>s.is [116,114,117,101]) ht e;obtain⟨-,e⟩:=bb e;injection e with e1 e2;subst e1 e2;refine⟨rfl,hn.up,Cw s,?_⟩;show(s.is [116,114,117,101]||s.is [102,97,108,115,101])=true;grind
  |false=>
   have ht:=bB hn (x:=[102,97,108,115,101]) (b:=true) (by rfl);replace e:=dF (c:=fun s=>s.is [102,97,108,115,101]) ht (aY (c:=fun s=>s.is [116,114,117,101]) (bB hn (by rfl)) e);obtain⟨-,e⟩:=bb e;injection e with e1 e2;subst e1 e2;refine⟨rfl,hn.up,Cw s,?_⟩;show(s.is [116,114,117,101]||s.is [102,97,108,115,101])=true;simp_all
 ·obtain rfl:n=0:=by omega
  obtain rfl:=c3.resolve_right (by omega);obtain rfl:=c4.resolve_right (by omega);have hw:bQ (kL ⟨3,0,t,[],[]⟩)=[⟨4,t,0,0⟩]:=Iy hc.s;rw[hw]at hn;obtain⟨a1,a2,-⟩:=hn.k (t:=⟨4,t,0,0⟩) (ji (show(t.length:Int)<=64 by have:=hc.s.2;grind));have h4:eqI (s.peek 0).k 4=true:=by rw[a1];rfl
  replace e:=dF (c:=fun s=>eqI (s.peek 0).k 4) h4 e;obtain⟨-,e⟩:=bb e;injection e with e1 e2;subst e1 e2;refine⟨by rw[a2],hn.up,Cw s,h4⟩
 ·obtain rfl:n=0:=by omega
  obtain rfl:=c2.resolve_right (by omega);obtain rfl:=c4.resolve_right (by omega);have hw:bQ (kL ⟨4,0,[],I,[]⟩)++sy [59]::R=kw [105,110,116,115]::sy [40]::(bQ (bU 0 (I.map iA))++sy [41]::sy [59]::R):=by
   rw[show kL ⟨4,0,[],I,[]⟩=[105,110,116,115]::bp (I.map iA)from rfl,gO,List.cons_append,oQ,show bD [105,110,116,115]=kw [105,110,116,115] by rfl]
  rw[hw]at hn;have h4:eqI (s.peek 0).k 4=false:=by rw[(hn.k (by rfl)).1];rfl
  have hi:=bB hn (x:=[105,110,116,115]) (b:=true) (by rfl);replace e:=dF (c:=fun s=>s.is [105,110,116,115]) hi (aY (c:=fun s=>s.is [102,97,108,115,101]) (bB hn (by rfl)) (aY (c:=fun s=>s.is [116,114,117,101]) (bB hn (by rfl)) (aY (c:=fun s=>eqI (s.peek 0).k 4) h4 e)));obtain⟨_,s1,e1,e⟩:=aa e;obtain⟨hn1,hm1⟩:=kx hn e1;obtain⟨_,s2,e2,e⟩:=aa e;obtain⟨hn2,hm2⟩:=ez hn1 (by rfl) e2;obtain⟨l,s3,e3,e⟩:=aa e;have key:=zm (I.map iA) (fun i w l=>Sm s w 0/\l=I.take i)
   (fun i h w z l l' R' t1 hw hj ht ee=>by
    obtain⟨j1,j2⟩:=hj;have hi:i<I.length:=by grind
    rw[List.getElem_map]at hw;obtain⟨x,ee2,-,rfl⟩:=cf ee;obtain⟨rfl,g1,g2⟩:=SD (hc.I.2 _ (lπ hi)) hw ee2;exact⟨⟨j1.tr g2,by simp_all⟩,g1⟩)
   (fun i w l hj=>⟨hj.1.tr (Cw w),hj.2⟩)
   (fun i h w R' hw=>by
    have hi:i<I.length:=by grind
    rw[List.getElem_map]at hw;obtain⟨h1,-,h3⟩:=PJ (hc.I.2 _ (lπ hi)) hw;exact⟨h1,h3 _ (by rfl)⟩)
   (by have:=hc.I.1;simp_all) hn2 ⟨hm1.tr hm2,rfl⟩ e3
  obtain⟨⟨j1,j2⟩,hn3⟩:=key;obtain⟨_,s4,e4,e⟩:=aa e;obtain⟨hn4,hm4⟩:=ez hn3 (by rfl) e4;obtain⟨rfl,rfl⟩:=au e;rw[lζ,List.take_length]at j2;subst j2;exact⟨rfl,hn4,j1.tr hm4,hi⟩
 ·obtain rfl:n=0:=by omega
  obtain rfl:=c2.resolve_right (by omega);obtain rfl:=c3.resolve_right (by omega);have hw:bQ (kL ⟨5,0,[],[],L⟩)++sy [59]::R=kw [115,116,114,105,110,103,115]::sy [40]::(bQ (bU 0 (L.map fun t=>[gv t]))++sy [41]::sy [59]::R):=by
   rw[show kL ⟨5,0,[],[],L⟩=[115,116,114,105,110,103,115]::bp (L.map fun t=>[gv t])from rfl,gO,List.cons_append,oQ,show bD [115,116,114,105,110,103,115]=kw [115,116,114,105,110,103,115] by rfl]
  rw[hw]at hn;have h4:eqI (s.peek 0).k 4=false:=by rw[(hn.k (by rfl)).1];rfl
  have hi:=bB hn (x:=[115,116,114,105,110,103,115]) (b:=true) (by rfl);replace e:=dF (c:=fun s=>s.is [115,116,114,105,110,103,115]) hi (aY (c:=fun s=>s.is [105,110,116,115]) (bB hn (by rfl)) (aY (c:=fun s=>s.is [102,97,108,115,101]) (bB hn (by rfl)) (aY (c:=fun s=>s.is [116,114,117,101]) (bB hn (by rfl)) (aY (c:=fun s=>eqI (s.peek 0).k 4) h4 e))));obtain⟨_,s1,e1,e⟩:=aa e;obtain⟨hn1,hm1⟩:=kx hn e1;obtain⟨_,s2,e2,e⟩:=aa e;obtain⟨hn2,hm2⟩:=ez hn1 (by rfl) e2;obtain⟨l,s3,e3,e⟩:=aa e;have fst:∀(i:Nat) (h:i<L.length) (w:PS) (R':List Tk),Nx w (bQ ((L.map fun t=>[gv t])[i]'(by simp_all))++R')->Nx w (⟨4,L[i],0,0⟩::R')/\bc ⟨4,L[i],0,0⟩=true:=fun i h w R' hw=>by
   have hl:=hc.L.2 _ (lπ h);rw[List.getElem_map,Iy hl]at hw;exact⟨hw,ji (show(L[i].length:Int)<=64 by omega)⟩
  have key:=zm (L.map fun t=>[gv t]) (fun i w l=>Sm s w 0/\l=L.take i)
   (fun i h w z l l' R' t1 hw hj ht ee=>by
    obtain⟨j1,j2⟩:=hj;have hi:i<L.length:=by grind
    obtain⟨hw,hp⟩:=fst i hi w _ hw;obtain⟨x,ee2,-,rfl⟩:=cf ee;obtain⟨t,w1,ee3,ee2⟩:=aa ee2;obtain⟨rfl,rfl⟩:=au ee2;obtain⟨g0,-,g1,g2⟩:=Hx (t:=⟨4,L[i],0,0⟩) hw hp ee3;exact⟨⟨j1.tr g2,by simp_all⟩,g1⟩)
   (fun i w l hj=>⟨hj.1.tr (Cw w),hj.2⟩)
   (fun i h w R' hw=>by
    have hi:i<L.length:=by grind
    obtain⟨hw,hp⟩:=fst i hi w _ hw;refine⟨?_,?_⟩
    ·unfold Kn;rw[(hw.k hp).1];rfl
    ·rw[hw.isA];exact Ht (.inr rfl))
   (by have:=hc.L.1;simp_all) hn2 ⟨hm1.tr hm2,rfl⟩ e3
  obtain⟨⟨j1,j2⟩,hn3⟩:=key;obtain⟨_,s4,e4,e⟩:=aa e;obtain⟨hn4,hm4⟩:=ez hn3 (by rfl) e4;obtain⟨rfl,rfl⟩:=au e;rw[lζ,List.take_length]at j2;subst j2;exact⟨rfl,hn4,j1.tr hm4,hi⟩
def KK {s:PS}{v:Va}{R:List Tk}(hn:Nx s (bQ (kL v)++R))(hv:kE v=true)(hk:1<=v.k/\v.k<=5)(hc:nh v):cY v.k s=true:=by
 obtain⟨-,-,c1,c2,c3,c4⟩:=ry hv;obtain⟨k,n,t,I,L⟩:=v;simp at hk c1 c2 c3 c4;have hk':k=1\/k=2\/k=3\/k=4\/k=5:=by omega
 rcases hk' with rfl|rfl|rfl|rfl|rfl
 ·exact(PJ hc.n hn).1
 ·have hb:=hc.b rfl;rcases hb with rfl|rfl
  ·show(s.is [116,114,117,101]||s.is [102,97,108,115,101])=true;rw[bB hn (x:=[102,97,108,115,101]) (b:=true) (by rfl),Bool.or_true]
  ·show(s.is [116,114,117,101]||s.is [102,97,108,115,101])=true;rw[bB hn (x:=[116,114,117,101]) (b:=true) (by rfl)];rfl
 ·have hw:bQ (kL ⟨3,n,t,I,L⟩)=[⟨4,t,0,0⟩]:=Iy hc.s;rw[hw]at hn;show eqI (s.peek 0).k 4=true;rw[(hn.k (t:=⟨4,t,0,0⟩) (ji (show(t.length:Int)<=64 by have:=hc.s.2;grind))).1];rfl
 ·exact bB hn (by rfl)
 ·exact bB hn (by rfl)
def Vu {s u:PS}{f f':Fe}{R:List Tk}(hv:dz f=true)(hc:nh f.init)(hn:Nx s (bQ (kO f)++R))(e:kR q s=some (f',u)):f'=f/\Nx u R/\Sm s u 0:=by
 unfold dz at hv;simp only[lγ,bO,lδ]at hv;obtain⟨g1,g2,g3,g4,-⟩:=hv;unfold eI at g2;simp only[lγ,cn,lδ]at g2;have hw:bQ (kO f)++R=kw [115,116,97,116,101]::bD f.name::sy [58]::bD (ct f.kind)::sy [61]::(bQ (kL f.init)++sy [59]::R):=by
  show bQ ([[115,116,97,116,101],f.name,[58],ct f.kind,[61]]++(kL f.init++[[59]]))++R=_;rw[bd,bd,<-NR (o:=[115,116,97,116,101]) (by simp),<-C0 (o:=[58]) (by simp),<-C0 (o:=[61]) (by simp),<-C0 (o:=[59]) (by simp),lε,lε];rfl
 rw[hw]at hn;obtain⟨_,s1,e1,e⟩:=aa e;obtain⟨hn1,hm1⟩:=ez hn (by rfl) e1;obtain⟨n,s2,e2,e⟩:=aa e;obtain⟨rfl,hn2,hm2⟩:=mP g1 hn1 e2;obtain⟨_,s3,e3,e⟩:=aa e;obtain⟨hn3,hm3⟩:=ez hn2 (by rfl) e3;obtain⟨k,s4,e4,e⟩:=aa e;obtain⟨rfl,hn4,hm4⟩:=zB g2 hn3 e4;obtain⟨_,s5,e5,e⟩:=aa e;obtain⟨hn5,hm5⟩:=ez hn4 (by rfl) e5;obtain⟨_,s6,e6,e⟩:=aa e;obtain⟨v,s7,e7,e⟩:=aa e;obtain⟨-,e6⟩:=bb e6;have hs6:s6=s5:=by
  cases hf:cY f.kind s5 with
  |true=>simp_all
  |false=>
   have key:cY f.init.k s5=true:=KK hn5 g4 (by omega) hc;simp_all
 rw[hs6]at e7;obtain⟨rfl,hn7,hm7,-⟩:=ϔ g4 (by omega) hc hn5 e7;obtain⟨_,s8,e8,e⟩:=aa e;obtain⟨hn8,hm8⟩:=ez hn7 (by rfl) e8;obtain⟨rfl,rfl⟩:=au e;refine⟨rfl,hn8,((((hm1.tr hm2).tr hm3).tr hm4).tr hm5).tr (hm7.tr hm8)⟩
def oO {k:Int}(h:eI k=true):1<=k/\k<=5:=by
 unfold eI at h;simp only[lγ,cn,lδ]at h;exact h
def Wk {s u:PS}{p p':Pa}{R:List Tk}(h1:bw p.name=true)(h2:eI p.kind=true)(hn:Nx s (bQ (mu p)++R))(e:kT s=some (p',u)):p'=p/\Nx u R/\Sm s u 0:=by
 have hw:bQ (mu p)++R=bD p.name::sy [58]::bD (ct p.kind)::R:=by
  rfl
 obtain⟨n,s2,e2,e⟩:=aa e;obtain⟨rfl,hn2,hm2⟩:=mP h1 hn e2;obtain⟨_,s3,e3,e⟩:=aa e;obtain⟨hn3,hm3⟩:=ez hn2 (by rfl) e3;obtain⟨k,s4,e4,e⟩:=aa e;obtain⟨rfl,hn4,hm4⟩:=zB (oO h2) hn3 e4;obtain⟨rfl,rfl⟩:=au e;exact⟨rfl,hn4,(hm2.tr hm3).tr hm4⟩
def Pc (h:gz ns=true):∃ks,nz ns= .n 18 [] vz ks/\(nz ns).fl 0=ns/\(nz ns).sz=ns.length/\Wf (nz ns)/\DI ns (nz ns) 0:=by
 obtain⟨t,h1,h2,h3,h4,h5,-⟩:=wv h;obtain⟨a1,a2,a3⟩:=RK ⟨t,h2,h3,h4⟩;have he:=YW _ 0 a1;rw[List.drop_zero,a2,List.take_length]at he;have o1:=rp _ 0 a1;have o2:=rp t 0 h2;rw[a2,<-h3,o2,h5]at o1;refine(?_:∃ks,nz ns= .n 18 [] vz ks).imp fun ks hk=>⟨hk,he.symm,a2,a3,a1⟩
 cases hb:nz ns with
 |n op nm v ks=>
  rw[hb]at o1 a3;simp only[Tr.op]at o1;subst o1;simp only[Wf]at a3;obtain⟨rfl,rfl⟩:=Zu (by simp) a3.2.1;exact⟨ks,rfl⟩
def Y6 {s u:PS}{ns':List No}{R:List Tk}(hb:gz ns=true)(hd:∀x∈ns,eV x)(h0:0<=s.tt)(hl:s.tt+(ns.length:Int)<=1500)(hn:Nx s (bQ (nz ns).w++R))(e:sb f q s=some (ns',u)):ns'=ns/\Nx u R/\u.tt=s.tt+(ns.length:Int):=by
 obtain⟨ks,h1,h2,h3,h4,h5⟩:=Pc hb;have hv:=Gb (P:=eV) (fun op nm v a b h=>h) hd _ 0 h5;rw[h1]at h2 h3 h4 hv hn;have hks:∀k∈ks,Wf k/\mw k.op=true:=fun k hk=>⟨vV h4.2.2 hk,mG (p:=mw) h4.1 k hk⟩
 have hht:cN ns<=24:=by
  unfold gz at hb;simp only[lγ,cn,lδ]at hb;omega
 have hT24:hT (.n 18 [] vz ks)<=24:=by
  have:=VE (t:= .n 18 [] vz ks) (by omega);grind
 have hwr:ae .i64 (s.tt+(ns.length:Int))=s.tt+(ns.length:Int):=cz (by omega) (by omega);unfold sb at e;cases hblk:gD td (f8 (fu q f 0) (Ek q f) q) q {s with nd:=[],ne:=0}with
 |none=>simp_all
 |some r=>
  obtain⟨v,w⟩:=r;rw[hblk]at e;obtain⟨rfl,rfl⟩:=e;have hs0:Nx {s with nd:=[],ne:=0} (bQ (Tr.n 18 [] vz ks).w++R):=⟨hn.ok,hn.tk,hn.ps⟩;obtain⟨s3,s4,-,-,-,g1,g2,hlim,hf⟩:=En hks (fun k hk z u' v' t1 R' hz hnz he ee=>by
   have hz':z.ne=1:=hz;have hop:Dz 18=1:=rfl;have hk24:=GV (op:=18) (nm:=[]) (v:=vz) hk;exact(ģ _ k (Nat.le_refl _) (hks k hk).1 (qo hv.2 hk)).1 (hks k hk).2 q f z u' v' R' t1 hnz he (by omega) (by omega) ee) hs0 (by simp) (by simp) hblk
  have hlim:=acW hlim;replace g1:s3.nd=(Tr.n 18 [] vz ks).fl 0:=g1;rw[h2]at g1;have hlb:n_ s3.nd s3.tt=false:=by
   unfold n_;rw[g1,g2,hwr,tz (by omega),tz (by omega)];rfl
  rw[hlb,cond_false]at hlim;have hfin:=hf hlim;have hnd:w.nd=ns:=by
   rw[hfin.nd];simp_all
  have htt:w.tt=s.tt:=hfin.tt;refine⟨hnd,⟨hfin.nx.ok,hfin.nx.tk,hfin.nx.ps⟩,?_⟩;simp_all
variable {m:Me}
def ö {s u:PS}{m':Me}{R:List Tk}(hv:iy m=true)(hb:gz m.nodes=true)(hd:∀x∈m.nodes,eV x)(h0:0<=s.tt)(hl:s.tt+(m.nodes.length:Int)<=1500)(hn:Nx s (bQ (ll m)++R))(e:sc f q s=some (m',u)):m'=m/\Nx u R/\u.tt=s.tt+(m.nodes.length:Int):=by
 unfold iy at hv;simp only[lγ,cZ,lσ]at hv;obtain⟨v1,v2,v3,v4⟩:=hv;obtain⟨ks,hks,-⟩:=Pc hb;have hw:bQ (ll m)++R=kw [109,101,116,104,111,100]::bD m.name::sy [40]::(bQ (bU 0 (m.params.map mu))++sy [41]::(bQ (tj m.result)++(bQ (nz m.nodes).w++R))):=by
  show bQ ([[109,101,116,104,111,100],m.name]++(bp (m.params.map mu)++(tj m.result++(nz m.nodes).w)))++R=_;rw[bd,bd,bd,lε,lε,lε,oQ,<-NR (o:=[109,101,116,104,111,100]) (by simp)];rfl
 rw[hw]at hn;have hbr:∃r,bQ (nz m.nodes).w=sy [123]::r:=by
  rw[hks,<-C0 (o:=[123]) (by simp)];exact⟨_,rfl⟩
 obtain⟨rb,hbr⟩:=hbr;obtain⟨_,s1,e1,e⟩:=aa e;obtain⟨hn1,hm1⟩:=ez hn (by rfl) e1;obtain⟨n,s2,e2,e⟩:=aa e;obtain⟨rfl,hn2,hm2⟩:=mP v1 hn1 e2;obtain⟨_,s3,e3,e⟩:=aa e;obtain⟨hn3,hm3⟩:=ez hn2 (by rfl) e3;obtain⟨ps,s4,e4,e⟩:=aa e;have key:=zm (m.params.map mu) (fun i w l=>Sm s w 0/\l=m.params.take i)
  (fun i h w z l l' R' t1 hw hj ht ee=>by
   obtain⟨j1,j2⟩:=hj;have hi:i<m.params.length:=by grind
   rw[List.getElem_map]at hw;obtain⟨x,ee2,-,rfl⟩:=cf ee;have hx:=v4 _ (lπ hi);obtain⟨rfl,g1,g2⟩:=Wk hx.1 hx.2 hw ee2;exact⟨⟨j1.tr g2,by simp_all⟩,g1⟩)
  (fun i w l hj=>⟨hj.1.tr (Cw w),hj.2⟩)
  (fun i h w R' hw=>by
   have hi:i<m.params.length:=by grind
   rw[List.getElem_map]at hw;have hx:=v4 _ (lπ hi);have hw':Nx w (na m.params[i].name::((bQ (mu m.params[i])).tail++R')):=by
    rw[show na m.params[i].name=bD m.params[i].name from(jT hx.1).2.symm];exact hw
   refine⟨?_,?_⟩
   ·unfold Km;rw[(hw'.k (jJ hx.1)).1];rfl
   ·rw[hw'.isA];exact ma hx.1 _)
  (by grind) hn3 ⟨(hm1.tr hm2).tr hm3,rfl⟩ e4
 obtain⟨⟨j1,j2⟩,hn4⟩:=key;obtain⟨_,s5,e5,e⟩:=aa e;obtain⟨hn5,hm5⟩:=ez hn4 (by rfl) e5;obtain⟨k,s6,e6,e⟩:=aa e;have hres:k=m.result/\Nx s6 (bQ (nz m.nodes).w++R)/\Sm s5 s6 0:=by
  cases hr:eqI m.result 0 with
  |true=>
   have hrw:tj m.result=[]:=by unfold tj;grind
   rw[hrw]at hn5;have hn5':=hn5;rw[hbr]at hn5';replace e6:=aY (c:=fun s=>s.is [58]) (Fi hn5' (by rfl)) e6;obtain⟨rfl,rfl⟩:=au e6;rw[bO,lδ]at hr;exact⟨hr.symm,hn5,(Int.add_zero _).symm,rfl,rfl⟩
  |false=>
   have hrw:bQ (tj m.result)++(bQ (nz m.nodes).w++R)=sy [58]::bD (ct m.result)::(bQ (nz m.nodes).w++R):=by
    unfold tj;rw[hr,<-C0 (o:=[58]) (by simp)];rfl
   rw[hrw]at hn5;have hk:eI m.result=true:=by
    simp_all
   replace e6:=dF (c:=fun s=>s.is [58]) (Fi hn5 (by rfl)) e6;obtain⟨_,s7,e7,e6⟩:=aa e6;obtain⟨hn7,hm7⟩:=kx hn5 e7;obtain⟨rfl,hn8,hm8⟩:=zB (oO hk) hn7 e6;exact⟨rfl,hn8,hm7.tr hm8⟩
 obtain⟨rfl,hn6,hm6⟩:=hres;have ht6:s6.tt=s.tt:=by rw[hm6.tt,hm5.tt,j1.tt]
 obtain⟨ns,s9,e9,e⟩:=aa e;obtain⟨rfl,hn9,ht9⟩:=Y6 hb hd (by omega) (by omega) hn6 e9;obtain⟨rfl,rfl⟩:=au e;simp_all
def BF {α:Type}{w:LN}{most:Nat}{p:PM α}(xs:List α)(W:α->List LN)(J:Nat->PS->Prop)(t1:Tk)(R:List Tk)
  (hP:∀(i:Nat) (h:i<xs.length) (s u:PS) (x:α) (R':List Tk),Nx s (bQ (W xs[i])++R')->J i s->p s=some (x,u)->x=xs[i]/\J (i+1) u/\Nx u R')
  (hF:∀x∈xs,∃t0 r,bQ (W x)=t0::r/\eB t0 w=true) (ht:eB t1 w=false) (hm:xs.length<=most):
  ∀(n q i:Nat) (s u:PS) (l':List α),i+n=xs.length->J i s->Nx s (bQ (aF ((xs.drop i).map W))++t1::R)->hH w most p q (xs.take i) s=some (l',u)->l'=xs/\J xs.length u/\Nx u (t1::R)
 |n,0,i,s,u,l',hi,hj,hn,e=>by cases e
 |0,q+1,i,s,u,l',hi,hj,hn,e=>by
  rw[List.drop_of_length_le (by omega)]at hn;replace hn:Nx s (t1::R):=hn;unfold hH at e;obtain⟨rfl,rfl⟩:=au (aY (c:=fun s=>s.is w) ((hn.isA _).trans ht) e);obtain rfl:i=xs.length:=by omega
  rw[List.take_length];exact⟨rfl,hj,hn⟩
 |n+1,q+1,i,s,u,l',hi,hj,hn,e=>by
  have hi':i<xs.length:=by omega
  obtain⟨t0,r0,f1,f2⟩:=hF _ (lπ hi');have hd:aF ((xs.drop i).map W)=W xs[i]++aF ((xs.drop (i+1)).map W):=by rw[lι hi'];rfl
  rw[hd,bd,lε]at hn;have hc:s.is w=true:=by
   have hn':=hn;rw[f1]at hn';rw[Nx.isA hn'];exact f2
  unfold hH at e;replace e:=dF (c:=fun s=>s.is w) hc e;obtain⟨_,s1,e1,e⟩:=aa e;have hs1:s1=s:=by
   obtain⟨-,e1⟩:=bb e1;injection e1 with _ e1;have hb:Nat.beq (xs.take i).length most=false:=by
    cases hq:Nat.beq (xs.take i).length most with
    |false=>rfl
    |true=>
     have:=lη hq;rw[mδ]at this;omega
   rw[hb]at e1;exact e1.symm
  rw[hs1]at e;obtain⟨l1,s2,e2,e⟩:=aa e;obtain⟨x,e2x,-,rfl⟩:=cf e2;obtain⟨rfl,hj2,hn2⟩:=hP i hi' s s2 x _ hn hj e2x;rw[<-iz xs i hi']at e;exact BF xs W J t1 R hP hF ht hm n q (i+1) s2 u l' (by omega) hj2 hn2 e
structure W2 (a:Ac):Prop where
 fs:∀f∈a.fields,nh f.init
 ns:∀m∈a.methods,m.nodes.length<1000000000000/\∀x∈m.nodes,eV x
def EV {r:List Me}{t t':Int}(h:hR (m::r) t=some t')(hl:m.nodes.length<1000000000000)(h0:0<=t)(h1:t<=1500):t+(m.nodes.length:Int)<=1500/\iy m=true/\gz m.nodes=true/\hR r (t+(m.nodes.length:Int))=some t':=by
 simp only[hR]at h;rw[show ae .i64 (t+(m.nodes.length:Int))=t+(m.nodes.length:Int)from cz (by omega) (by omega)]at h;by_cases hg:1500<t+(m.nodes.length:Int)
 ·rw[fd hg]at h;cases h
 all_goals grind
def US {s u:PS}{a a':Ac}{t':Int}{R:List Tk}(hv:qn a=true)(hm:hR a.methods s.tt=some t')(hd:W2 a)(h0:0<=s.tt)(h1:s.tt<=1500)(hn:Nx s (bQ (m4 a)++R))(e:oW f q s=some (a',u)):a'=a/\Nx u R/\u.tt=t'/\0<=t'/\t'<=1500:=by
 unfold qn at hv;simp only[lγ,Bool.not_eq_true',cZ,lρ,mυ]at hv;obtain⟨v1,v2,v3,v4⟩:=hv;have hw:bQ (m4 a)++R=kw [97,99,116,111,114]::bD a.name::sy [123]::(bQ (aF (a.fields.map kO))++(bQ (aF (a.methods.map ll))++sy [125]::R)):=by
  show bQ ([[97,99,116,111,114],a.name,[123]]++(aF (a.fields.map kO)++(aF (a.methods.map ll)++[[125]])))++R=_;rw[bd,bd,bd,<-NR (o:=[97,99,116,111,114]) (by simp),<-C0 (o:=[123]) (by simp),<-C0 (o:=[125]) (by simp),lε,lε,lε];rfl
 rw[hw]at hn;obtain⟨_,s1,e1,e⟩:=aa e;obtain⟨hn1,hm1⟩:=ez hn (by rfl) e1;obtain⟨n,s2,e2,e⟩:=aa e;obtain⟨rfl,hn2,hm2⟩:=mP v1 hn1 e2;obtain⟨_,s3,e3,e⟩:=aa e;obtain⟨hn3,hm3⟩:=ez hn2 (by rfl) e3;obtain⟨fs,s4,e4,e⟩:=aa e;have tokn:∃t1 R',eB t1 [115,116,97,116,101]=false/\bQ (aF (a.methods.map ll))++sy [125]::R=t1::R':=by
  cases hM:a.methods with
  |nil=>exact⟨sy [125],R,by rfl,rfl⟩
  |cons x r=>exact⟨kw [109,101,116,104,111,100],_,by rfl,by rfl⟩
 obtain⟨t1,R',ht1,htok⟩:=tokn;rw[htok]at hn3;obtain⟨rfl,j4,hn4⟩:=BF a.fields kO (fun i w=>Sm s w 0) t1 R'
  (fun i h w z x R'' hw hj ee=>by
   have hf:dz a.fields[i]=true:=by simp_all
   obtain⟨rfl,g1,g2⟩:=Vu hf (hd.fs _ (lπ h)) hw ee;exact⟨rfl,hj.tr g2,g1⟩)
  (fun x hx=>⟨kw [115,116,97,116,101],_,by rfl,by rfl⟩) ht1 (by omega) a.fields.length q 0 s3 s4 fs (by omega) ((hm1.tr hm2).tr hm3) hn3 e4
 rw[<-htok]at hn4;obtain⟨ms,s5,e5,e⟩:=aa e;have ht4:s4.tt=s.tt:=j4.tt;obtain⟨rfl,⟨j5,j6,j7⟩,hn5⟩:=BF a.methods ll (fun i w=>hR (a.methods.drop i) w.tt=some t'/\0<=w.tt/\w.tt<=1500) (sy [125]) R
  (fun i h w z x R'' hw hj ee=>by
   obtain⟨g1,g2,g3⟩:=hj;rw[lι h]at g1;have hdm:=hd.ns _ (lπ h);obtain⟨k1,k2,k3,k4⟩:=EV g1 hdm.1 g2 g3;obtain⟨rfl,r1,r2⟩:=ö k2 k3 hdm.2 g2 k1 hw ee;grind)
  (fun x hx=>⟨kw [109,101,116,104,111,100],_,by rfl,by rfl⟩) (by rfl) (by omega) a.methods.length q 0 s4 s5 ms (by omega) ⟨by simp_all,by omega,by omega⟩ hn4 e5
 rw[List.drop_length]at j5;simp only[hR,lβ]at j5;obtain⟨_,s6,e6,e⟩:=aa e;obtain⟨hn6,hm6⟩:=ez hn5 (by rfl) e6;obtain⟨rfl,rfl⟩:=au e;exact⟨rfl,hn6,hm6.tt.trans j5,by omega,by omega⟩
def Nx.len {s:PS}{R:List Tk}(h:Nx s R):s.tk.length=s.ps+R.length:=by
 have e:=congrArg List.length h.tk;have:=h.ps;simp_all
def Fw {n f q:Nat}(p:List Ac)(hd:∀a∈p,W2 a)(h8:p.length<=8)(t':Int)(hf:7*n+20<=f)(hq:n+4<=q):∀(k m i:Nat) (s u:PS) (l':List Ac),i+k=p.length->Iv s->s.tk.length=n->pg (p.drop i) s.tt=some t'->0<=s.tt->s.tt<=1500->Nx s (bQ (aF ((p.drop i).map m4)))->gS n f q m (p.take i) s=some (l',u)->l'=p/\u.ok=true
 |k,0,i,s,u,l',hi,iv,hl,hv,h0,h1,hn,e=>by cases e
 |0,m+1,i,s,u,l',hi,iv,hl,hv,h0,h1,hn,e=>by
  rw[List.drop_of_length_le (by omega)]at hn;have hlen:=hn.len;replace hlen:s.tk.length=s.ps+0:=hlen;rcases bT e with⟨-,e⟩|⟨k,-⟩;case inr=>rw[hn.ok]at k;cases k
  obtain⟨rfl,rfl⟩:=au (aY (c:=fun s=>decide (s.ps<n)) (mρ (by omega)) e);obtain rfl:i=p.length:=by omega
  exact⟨List.take_length,hn.ok⟩
 |k+1,m+1,i,s,u,l',hi,iv,hl,hv,h0,h1,hn,e=>by
  have hi':i<p.length:=by omega
  have hdr:aF ((p.drop i).map m4)=m4 p[i]++aF ((p.drop (i+1)).map m4):=by rw[lι hi'];rfl
  rw[hdr,bd]at hn;have hlen:=hn.len;have hpos:0<(bQ (m4 p[i])++bQ (aF ((p.drop (i+1)).map m4))).length:=by
   show 0<(bD [97,99,116,111,114]::_).length;simp
  rw[lι hi']at hv;simp only[pg]at hv;cases ha:qn p[i]with
  |false=>simp_all
  |true=>
   rw[ha,cond_true]at hv;cases hm:hR p[i].methods s.tt with
   |none=>simp_all
   |some t1=>
    rw[hm]at hv;rcases bT e with⟨-,e⟩|⟨k,-⟩;case inr=>rw[hn.ok]at k;cases k
    replace e:=dF (c:=fun s=>decide (s.ps<n)) (qδ (by omega)) e;obtain⟨_,s1,e1,e⟩:=aa e;have hs1:s1=s:=by
     obtain⟨-,e1⟩:=bb e1;have hb:Nat.beq (p.take i).length 8=false:=by
      cases hq:Nat.beq (p.take i).length 8 with
      |false=>rfl
      |true=>
       simp_all;omega
     simp_all
    rw[hs1]at e;obtain⟨l1,s2,e2,e⟩:=aa e;obtain⟨x,e2x,-,rfl⟩:=cf e2;obtain⟨a,w,r1,r2,r3,-⟩:=B2 (f:=f) (q:=q) iv (by unfold PS.rem;omega) (by unfold PS.rem;omega);rw[e2x]at r1;injection r1 with r1;injection r1 with r0 r1;subst r0 r1;obtain⟨rfl,hn2,ht2,k1,k2⟩:=US ha hm (hd _ (lπ hi')) h0 h1 hn e2x;rw[<-iz p i hi']at e;rw[<-ht2]at hv;exact Fw p hd h8 t' hf hq k m (i+1) s2 u l' (by omega) r2 (by rw[r3.tk];exact hl) hv (by omega) (by omega) hn2 e
def iv0 (tk:List Tk)(en:Int)(hl:tk.length<=6000)(hb:Eb tk):Iv ⟨tk,0,en,0,0,0,0,[]⟩:=by
 refine⟨?_,hl,Nat.le_refl _,fun x hx=>by cases hx⟩
 unfold PS.sz;simp only[lγ,lδ,lσ];exact⟨Nat.zero_le _,by omega,fun t ht c hc=>hb t ht c hc⟩
variable {p:List Ac}
def MQ {tk:List Tk}{en:Int}{r:List Ac×Int×Int}(hv:hZ p=true)(hd:∀a∈p,W2 a)(ht:tk.map st=bQ (fE p))(hk:Eb tk)(hl:tk.length<=6000)(hf:7*tk.length+20<=f)(hq:tk.length+4<=q)(e:nf tk en f q=some r):r=(p,0,0):=by
 unfold hZ at hv;simp only[lγ,Bool.not_eq_true',cZ,lρ]at hv;obtain⟨h8,ht'⟩:=hv;obtain⟨t',ht'⟩:=Option.isSome_iff_exists.1 ht';unfold nf at e;cases hg:gS tk.length f q q [] ⟨tk,0,en,0,0,0,0,[]⟩with
 |none=>rw[hg]at e;cases e
 |some z=>
  obtain⟨l,s⟩:=z;rw[hg]at e;have hn0:Nx ⟨tk,0,en,0,0,0,0,[]⟩ (bQ (aF ((p.drop 0).map m4))):=⟨rfl,by show tk.map st=[]++_;rw[ht];rfl,Nat.zero_le _⟩
  obtain⟨rfl,hok⟩:=Fw p hd (by omega) t' hf hq p.length q 0 _ s l (by omega) (iv0 tk en hl hk) rfl ht' (by show(0:Int)<=0;omega) (by show(0:Int)<=1500;omega) hn0 hg;simp only[hok,Bool.not_true,cond_false]at e;injection e with e;exact e.symm
def GW (w:LN):Prop:=WdT w/\w.length<=260
def GWs (ws:List LN):Prop:=∀w∈ws,GW w
def GWs.app {a b:List LN}(h:GWs a)(g:GWs b):GWs (a++b):=fun w hw=>(mγ.1 hw).elim (h w) (g w)
def GWs.cons {a:LN}{b:List LN}(h:GW a)(g:GWs b):GWs (a::b):=fun w hw=>(mα.1 hw).elim (fun e=>e▸h) (g w)
def GWs.nil:GWs []:=fun w hw=>by cases hw
def fixW:List LN:=[[99,97,108,108],[108,101,116],[105,102],[119,104,105,108,101],[114,101,116,117,114,110],[102,97,105,108],[101,109,105,116],[114,101,109,105,110,100],[99,97,110,99,101,108],[101,108,115,101],[97,99,116,111,114],[115,116,97,116,101],[109,101,116,104,111,100],[115,101,108,102],[116,114,117,101],[102,97,108,115,101],[105,110,116,115],[115,116,114,105,110,103,115],[105,110,116],[98,111,111,108],[115,116,114,105,110,103],[59],[46],[58],[61],[123],[125],[44],[40],[41],[45],[33]]++binO
def ϰ:(fixW.all fun w=>wdB w&&Nat.ble w.length 260)=true:=by rfl
def cM {w:LN}(h:w∈fixW):GW w:=by
 have:=lσ.1 ϰ w h;rw[lγ,Nat.ble_eq]at this;exact⟨aeU this.1,this.2⟩
def iY {w:LN}(h:bw w=true):GW w:=by
 refine⟨(jT h).1,?_⟩;unfold bw at h;simp only[lγ,cn,lδ]at h;omega
def KU:∀(k u:Nat),1<=k->u<10 ^ k->(lO u).length<=k
 |0,u,h,_=>by omega
 |k+1,u,_,h=>by
  rw[A7];by_cases hu:u<10
  ·simp_all
  ·rw[if_neg hu,lα];have hk:1<=k:=by
    grind
   have:=KU k (u / 10) hk (by omega);simp_all
def Sv {n:Int}(h0:0<=n)(h1:n<=9223372036854775807):GW (ew n):=by
 refine⟨(CP h0 h1).1,?_⟩;obtain⟨u,rfl⟩:∃u:Nat,n=(u:Int):=⟨n.toNat,by omega⟩
 rw[Lx];have:=KU 19 u (by omega) (by omega);omega
def Ó {s:LN}(h:By s/\s.length<=64):GW (gv s):=by
 refine⟨(IA h.1 h.2).1,?_⟩;have:=Ce s;unfold gv;grind
def uJ {k:Int}(h:1<=k/\k<=5):GW (ct k):=by
 have hk':k=1\/k=2\/k=3\/k=4\/k=5:=by omega
 rcases hk' with rfl|rfl|rfl|rfl|rfl
 ·exact cM (w:=[105,110,116]) (by unfold fixW;simp)
 ·exact cM (w:=[98,111,111,108]) (by unfold fixW;simp)
 ·exact cM (w:=[115,116,114,105,110,103]) (by unfold fixW;simp)
 ·exact cM (w:=[105,110,116,115]) (by unfold fixW;simp)
 ·exact cM (w:=[115,116,114,105,110,103,115]) (by unfold fixW;simp)
def zt {i:Int}(h: -9223372036854775808<i/\i<=9223372036854775807):GWs (iA i)/\(iA i).length<=2:=by
 unfold iA;by_cases h0:i<0
 ·rw[fd h0,cond_true];exact⟨.cons (cM (w:=[45]) (by unfold fixW;simp)) (.cons (Sv (by omega) (by omega)) .nil),by simp⟩
 ·rw[tz h0,cond_false];exact⟨.cons (Sv (by omega) (by omega)) .nil,by simp⟩
def GG (ws:Ws):Prop:=∀w∈ws,GWs w
def GO:∀{ws:Ws},GG ws->GWs (aF ws)
 |[],_=> .nil
 |w::r,h=>(h w (by simp)).app (GO fun x hx=>h x (by simp[hx]))
def acs:GW [44]:=cM (w:=[44]) (by unfold fixW;simp)
def Sp:∀{ws:Ws},GG ws->GWs (bU 1 ws)
 |[],_=> .nil
 |w::r,h=>by
  rw[AZ];exact .cons acs ((h w (by simp)).app (Sp fun x hx=>h x (by simp[hx])))
variable {ws:Ws}
def lX (h:GG ws):GWs (bp ws):=by
 refine .cons (cM (w:=[40]) (by unfold fixW;simp)) (.app ?_ (.cons (cM (w:=[41]) (by unfold fixW;simp)) .nil));cases ws with
 |nil=>exact .nil
 |cons w r=>exact(h w (by simp)).app (Sp fun x hx=>h x (by simp[hx]))
def GP (h:GG ws)(n:Nat):GG (ws.take n):=fun w hw=>h w (qγ hw)
def Sq (h:GG ws)(n:Nat):GG (ws.drop n):=fun w hw=>h w (mι hw)
def qE (h:GG ws)(n:Nat):GWs (ws.getD n []):=by
 rw[lω];cases hg:ws[n]? with
 |none=>exact .nil
 |some w=>exact h w (mθ hg)
def ϲ (h:GG ws):GWs (rS ws):=by
 cases ws with
 |nil=>exact .nil
 |cons w r=>exact .cons (cM (w:=[101,108,115,101]) (by unfold fixW;simp)) (h w (by simp))
def KD:∀ws:Ws,(bU 1 ws).length=(aF ws).length+ws.length
 |[]=>rfl
 |w::r=>by
  rw[AZ];simp only[aF,List.length_cons,lα,KD r];omega
def ri (ws:Ws):(bp ws).length<=(aF ws).length+ws.length+2:=by
 unfold bp;simp;cases ws with
 |nil=>simp[bU]
 |cons w r=>
  rw[wz];simp only[lα,KD,aF,List.length_cons];omega
def Lo:∀a b:Ws,aF (a++b)=aF a++aF b
 |[],b=>rfl
 |w::r,b=>by simp only[List.cons_append,aF,Lo r b,lε]
def Sk (ws:Ws)(n:Nat):(aF ws).length=(aF (ws.take n)).length+(aF (ws.drop n)).length:=by
 rw[<-lα,<-Lo,List.take_append_drop]
def Bj (ws:Ws):(ws.getD 0 []).length<=(aF ws).length:=by
 cases ws with
 |nil=>simp
 |cons w r=>simp[aF]
def Î (ws:Ws):(ws.getD 1 []).length<=(aF (ws.drop 1)).length:=by
 cases ws with
 |nil=>simp
 |cons w r=>exact Bj r
def VC (ws:Ws):(ws.getD 0 []).length+(ws.getD 1 []).length<=(aF ws).length:=by
 cases ws with
 |nil=>simp
 |cons w r=>
  have:=Bj r;simp only[aF,lα];simp_all
def Z8 (ws:Ws):(rS ws).length<=(aF ws).length+1:=by
 cases ws with
 |nil=>simp[rS]
 |cons w r=>simp only[rS,aF,List.length_cons,lα];omega
def f1 {w:LN}(h:w∈fixW):GWs [w]:= .cons (cM h) .nil
def Ew {v:Va}(hv:kE v=true)(hc:nh v):GWs (kL v)/\(kL v).length<=100:=by
 unfold kL;cases h1:eqI v.k 1;case true=>obtain⟨a,b⟩:=zt hc.n;grind
 cases h2:eqI v.k 2;case true=>
  cases eqI v.n 1
  ·exact⟨f1 (w:=[102,97,108,115,101]) (by unfold fixW;simp),by simp⟩
  ·exact⟨f1 (w:=[116,114,117,101]) (by unfold fixW;simp),by simp⟩
 cases h3:eqI v.k 3;case true=>exact⟨.cons (Ó hc.s) .nil,by simp⟩
 cases h4:eqI v.k 4;case true=>
  refine⟨.cons (cM (w:=[105,110,116,115]) (by unfold fixW;simp)) (lX fun w hw=>?_),?_⟩
  ·obtain⟨i,hi,rfl⟩:=List.mem_map.1 hw;exact(zt (hc.I.2 i hi)).1
  ·have hl:∀I:LI,(∀i∈I,-9223372036854775808<i/\i<=9223372036854775807)->(aF (I.map iA)).length<=2*I.length:=fun I=>by
    induction I with
    |nil=>intro _;exact Nat.le_refl _
    |cons a r ih=>
     intro h;have:=(zt (h a (by simp))).2;have:=ih fun i hi=>h i (by simp[hi])
     simp only[List.map_cons,aF,lα,List.length_cons];omega
   have:=hl v.I hc.I.2;have:=ri (v.I.map iA);have:=hc.I.1;grind
 cases h5:eqI v.k 5;case true=>
  refine⟨.cons (cM (w:=[115,116,114,105,110,103,115]) (by unfold fixW;simp)) (lX fun w hw=>?_),?_⟩
  ·obtain⟨i,hi,rfl⟩:=List.mem_map.1 hw;exact .cons (Ó (hc.L.2 i hi)) .nil
  ·have hl:∀I:List LN,(aF (I.map fun s=>[gv s])).length=I.length:=fun I=>by
    induction I with
    |nil=>rfl
    |cons a r ih=>simp only[List.map_cons,aF,lα,List.length_cons,List.length_nil,ih];omega
   have:=ri (v.L.map fun s=>[gv s]);have:=hc.L.1;grind
 exact⟨.nil,by simp⟩
def P4 {op:Int}{v:Va}(hr:1<=op/\op<=18)(hc:dt ⟨op,nm,v,[]⟩=true)(hv:eV ⟨op,nm,v,[]⟩)(hw:GG ws):GWs (bW op nm v ws)/\(bW op nm v ws).length<=(aF ws).length+ws.length+10:=by
 have ho:op=1\/op=2\/op=3\/op=4\/op=5\/op=6\/op=7\/op=8\/op=9\/op=10\/op=11\/op=12\/op=13\/op=14\/op=15\/op=16\/op=17\/op=18:=by omega
 have m0:=Bj ws;have m1:=Î ws;have m01:=VC ws;have t1:=Sk ws 1;have t2:=Sk ws 2;have l0:=ri ws;have l1:=ri (ws.take 1);have l2:=ri (ws.drop 1);have e2:=Z8 (ws.drop 2);have t12:(aF (ws.take 1)).length+(ws.getD 1 []).length+(aF (ws.drop 2)).length<=(aF ws).length:=by
  cases ws with
  |nil=>exact Nat.le_refl _
  |cons w r=>
   cases r with
   |nil=>simp[aF]
   |cons x r=>simp[aF];omega
 have k1:(ws.take 1).length<=1:=by rw[mδ];omega
 have k2:(ws.drop 1).length<=ws.length:=by rw[lχ];omega
 have k3:(ws.take 1).length<=ws.length:=by rw[mδ];omega
 have k4:(ws.take 1).length+(ws.drop 1).length=ws.length:=by rw[mδ,lχ];omega
 rcases ho with rfl|rfl|rfl|rfl|rfl|rfl|rfl|rfl|rfl|rfl|rfl|rfl|rfl|rfl|rfl|rfl|rfl|rfl
 ·obtain⟨rfl,h⟩:=cv1 hc;have hn:=hv rfl;have hvv:kE v=true:=by
   replace hc:xL ⟨1,[],v,[]⟩=true:=hc;unfold xL at hc;exact(mI (mI hc).2).1
  have hco:nh v:=by
   rcases h with⟨n,rfl,h0⟩|⟨b,rfl⟩|⟨s,rfl,hs⟩
   ·exact⟨⟨by show _<n;omega,hn.1⟩,fun h=>(by cases h),⟨hn.2,Nat.zero_le _⟩,⟨Nat.zero_le _,fun i hi=>(by cases hi)⟩,⟨Nat.zero_le _,fun i hi=>by cases hi⟩⟩
   ·exact⟨⟨by cases b<;>decide,hn.1⟩,fun _=>(by cases b;exact .inl rfl;exact .inr rfl),⟨hn.2,Nat.zero_le _⟩,⟨Nat.zero_le _,fun i hi=>(by cases hi)⟩,⟨Nat.zero_le _,fun i hi=>by cases hi⟩⟩
   ·exact⟨⟨by show _<(0:Int);omega,hn.1⟩,fun h=>(by cases h),⟨hn.2,hs⟩,⟨Nat.zero_le _,fun i hi=>(by cases hi)⟩,⟨Nat.zero_le _,fun i hi=>by cases hi⟩⟩
  refine⟨(Ew hvv hco).1,?_⟩;show(kL v).length<=_;rcases h with⟨n,rfl,h0⟩|⟨b,rfl⟩|⟨s,rfl,hs⟩
  ·have:=(zt hco.n).2;show(iA n).length<=_;simp only[vI]at this;omega
  ·show 1<=_;omega
  ·show 1<=_;omega
 ·exact⟨.cons (iY (cv2 hc).1) .nil,by show 1<=_;omega⟩
 ·exact⟨f1 (w:=[115,101,108,102]) (by unfold fixW;simp),by show 1<=_;omega⟩
 ·obtain⟨h,-⟩:=cv4 hc;refine⟨(GWs.cons (cM (w:=[40]) (by unfold fixW;simp)) (.cons (cM (by unfold fixW;rcases h with rfl|rfl<;>simp)) .nil)).app ((qE hw 0).app (f1 (w:=[41]) (by unfold fixW;simp))),?_⟩;show([[40],nm]++(ws.getD 0 []++[[41]])).length<=_;simp only[lα,List.length_cons,List.length_nil];omega
 ·obtain⟨h,-⟩:=cv5 hc;refine⟨(f1 (w:=[40]) (by unfold fixW;simp)).app ((qE hw 0).app ((f1 (by unfold fixW;exact List.mem_append_right _ h)).app ((qE hw 1).app (f1 (w:=[41]) (by unfold fixW;simp))))),?_⟩;show([[40]]++(ws.getD 0 []++([nm]++(ws.getD 1 []++[[41]])))).length<=_;simp only[lα,List.length_cons,List.length_nil];omega
 ·obtain⟨h,-⟩:=cv6 hc;have hg:GW nm:=by
   rcases h with h|rfl|rfl
   ·exact iY h
   ·exact cM (by unfold fixW;simp)
   ·exact cM (by unfold fixW;simp)
  refine⟨(GWs.cons hg .nil).app (lX hw),?_⟩;show([nm]++bp ws).length<=_;simp only[lα,List.length_cons,List.length_nil];omega
 ·obtain⟨h,h',-⟩:=cv7 hc;refine⟨(GWs.cons (cM (w:=[99,97,108,108]) (by unfold fixW;simp)) (.cons (iY h) .nil)).app ((lX (GP hw 1)).app ((GWs.cons (cM (w:=[46]) (by unfold fixW;simp)) (.cons (iY h') .nil)).app (lX (Sq hw 1)))),?_⟩;show([[99,97,108,108],nm]++(bp (ws.take 1)++([[46],v.s]++bp (ws.drop 1)))).length<=_;simp only[lα,List.length_cons,List.length_nil];omega
 ·obtain⟨h,hk,-⟩:=cv8 hc;refine⟨(GWs.cons (cM (w:=[108,101,116]) (by unfold fixW;simp)) (.cons (iY h) (.cons (cM (w:=[58]) (by unfold fixW;simp)) (.cons (uJ hk) (f1 (w:=[61]) (by unfold fixW;simp)))))).app ((qE hw 0).app (f1 (w:=[59]) (by unfold fixW;simp))),?_⟩;show([[108,101,116],nm,[58],ct v.k,[61]]++(ws.getD 0 []++[[59]])).length<=_;simp only[lα,List.length_cons,List.length_nil];omega
 ·obtain⟨h,-⟩:=cv9 hc;refine⟨(GWs.cons (iY h) (f1 (w:=[61]) (by unfold fixW;simp))).app ((qE hw 0).app (f1 (w:=[59]) (by unfold fixW;simp))),?_⟩;show([nm,[61]]++(ws.getD 0 []++[[59]])).length<=_;simp only[lα,List.length_cons,List.length_nil];omega
 ·refine⟨(qE hw 0).app (f1 (w:=[59]) (by unfold fixW;simp)),?_⟩;show(ws.getD 0 []++[[59]]).length<=_;simp only[lα,List.length_cons,List.length_nil];omega
 ·refine⟨(f1 (w:=[105,102]) (by unfold fixW;simp)).app ((lX (GP hw 1)).app ((qE hw 1).app (ϲ (Sq hw 2)))),?_⟩;show([[105,102]]++(bp (ws.take 1)++(ws.getD 1 []++rS (ws.drop 2)))).length<=_;simp only[lα,List.length_cons,List.length_nil];omega
 ·refine⟨(f1 (w:=[119,104,105,108,101]) (by unfold fixW;simp)).app ((lX (GP hw 1)).app (qE hw 1)),?_⟩;show([[119,104,105,108,101]]++(bp (ws.take 1)++ws.getD 1 [])).length<=_;simp only[lα,List.length_cons,List.length_nil];omega
 ·refine⟨(f1 (w:=[114,101,116,117,114,110]) (by unfold fixW;simp)).app ((GO hw).app (f1 (w:=[59]) (by unfold fixW;simp))),?_⟩;show([[114,101,116,117,114,110]]++(aF ws++[[59]])).length<=_;simp only[lα,List.length_cons,List.length_nil];omega
 ·exact⟨(f1 (w:=[102,97,105,108]) (by unfold fixW;simp)).app (f1 (w:=[59]) (by unfold fixW;simp)),by show 2<=_;omega⟩
 ·refine⟨(f1 (w:=[101,109,105,116]) (by unfold fixW;simp)).app ((lX hw).app (f1 (w:=[59]) (by unfold fixW;simp))),?_⟩;show([[101,109,105,116]]++(bp ws++[[59]])).length<=_;simp only[lα,List.length_cons,List.length_nil];omega
 ·refine⟨(f1 (w:=[114,101,109,105,110,100]) (by unfold fixW;simp)).app ((lX hw).app (f1 (w:=[59]) (by unfold fixW;simp))),?_⟩;show([[114,101,109,105,110,100]]++(bp ws++[[59]])).length<=_;simp only[lα,List.length_cons,List.length_nil];omega
 ·refine⟨(f1 (w:=[99,97,110,99,101,108]) (by unfold fixW;simp)).app ((lX hw).app (f1 (w:=[59]) (by unfold fixW;simp))),?_⟩;show([[99,97,110,99,101,108]]++(bp ws++[[59]])).length<=_;simp only[lα,List.length_cons,List.length_nil];omega
 ·refine⟨(f1 (w:=[123]) (by unfold fixW;simp)).app ((GO hw).app (f1 (w:=[125]) (by unfold fixW;simp))),?_⟩;show([[123]]++(aF ws++[[125]])).length<=_;simp only[lα,List.length_cons,List.length_nil];omega
mutual
def CM:∀t:Tr,Wf t->iD eV t->GWs t.w/\t.w.length+1<=11*t.sz
 | .n op nm v ks,hw,hv=>by
  simp only[Wf]at hw;simp only[iD]at hv;obtain⟨h1,h2⟩:=yC ks hw.2.2 hv.2;have hr:1<=op/\op<=18:=by rcases qI hw.1 with rfl|rfl|rfl|rfl|rfl|rfl|rfl|rfl|rfl|rfl|rfl|rfl|rfl|rfl|rfl|rfl|rfl|rfl<;>decide
  obtain⟨g1,g2⟩:=P4 (ws:=wL ks) hr hw.2.1 hv.1 h1;rw[CO]at g2;simp only[Tr.w,Tr.sz];exact⟨g1,by omega⟩
def yC:∀l:List Tr,Ec l->oa eV l->GG (wL l)/\(aF (wL l)).length+l.length<=11*eR l
 |[],_,_=>⟨fun w hw=>(by cases hw),by simp[wL,aF,eR]⟩
 |t::r,hw,hv=>by
  simp only[Ec]at hw;simp only[oa]at hv;obtain⟨h1,h2⟩:=CM t hw.1 hv.1;obtain⟨g1,g2⟩:=yC r hw.2 hv.2;refine⟨fun w hw=>?_,?_⟩
  ·simp only[wL]at hw;exact(mα.1 hw).elim (fun e=>e▸h1) (g1 w)
  ·simp only[wL,aF,eR,lα,List.length_cons];omega
end
structure pT (a:Ac):Prop where
 fs:∀f∈a.fields,rK f.init
 ns:∀m∈a.methods,m.nodes.length<1000000000000/\∀x∈m.nodes,rK x.v
def acT {x:No}(h:rK x.v):eV x:=fun _=>⟨h.n.2,h.s⟩
def aco {f:Fe}(hd:rK f.init)(hv:dz f=true):nh f.init:=by
 unfold dz at hv;simp only[lγ,Bool.not_eq_true',bO,lδ,lρ,mυ]at hv;obtain⟨-,-,-,g4,g5,g6⟩:=hv;exact Zt hd g4 g5 fun i hi he=>g6 i hi he.symm
variable {a:Ac}
def Ga (hd:pT a)(hv:qn a=true):W2 a:=by
 unfold qn at hv;simp only[lγ,Bool.not_eq_true',mυ]at hv;refine⟨fun f hf=>aco (hd.fs f hf) ?_,fun m hm=>⟨(hd.ns m hm).1,fun x hx=>acT ((hd.ns m hm).2 x hx)⟩⟩
 have:=hv.2.2.2 f hf;simpa using this
def SS:∀(l:List Me) (t t':Int),hR l t=some t'->(∀m∈l,m.nodes.length<1000000000000)->0<=t->t<=1500->0<=t'/\t'<=1500/\∀m∈l,iy m=true/\gz m.nodes=true/\m.nodes.length<=1500
 |[],t,t',h,_,h0,h1=>by
  simp only[hR,lβ]at h;subst h;exact⟨h0,h1,fun m hm=>by cases hm⟩
 |m::r,t,t',h,hb,h0,h1=>by
  obtain⟨g1,g2,g3,g4⟩:=EV h (hb m (by simp)) h0 h1;obtain⟨r1,r2,r3⟩:=SS r _ t' g4 (fun x hx=>hb x (by simp[hx])) (by omega) g1;refine⟨r1,r2,fun x hx=>?_⟩
  rcases mα.1 hx with rfl|hx
  ·exact⟨g2,g3,by omega⟩
  ·exact r3 x hx
def TJ:∀(l:List Ac) (t t':Int),pg l t=some t'->(∀a∈l,∀m∈a.methods,m.nodes.length<1000000000000)->0<=t->t<=1500->∀a∈l,qn a=true/\∀m∈a.methods,iy m=true/\gz m.nodes=true/\m.nodes.length<=1500
 |[],t,t',h,_,h0,h1=>fun a ha=>by cases ha
 |a::r,t,t',h,hb,h0,h1=>by
  simp only[pg]at h;cases ha:qn a with
  |false=>rw[ha]at h;cases h
  |true=>
   rw[ha,cond_true]at h;cases hm:hR a.methods t with
   |none=>rw[hm]at h;cases h
   |some t1=>
    rw[hm]at h;obtain⟨r1,r2,r3⟩:=SS _ _ _ hm (hb a (by simp)) h0 h1;have:=TJ r t1 t' h (fun x hx=>hb x (by simp[hx])) r1 r2;intro x hx;rcases mα.1 hx with rfl|hx
    ·exact⟨ha,r3⟩
    ·exact this x hx
def zI (hv:hZ p=true)(hb:∀a∈p,pT a):p.length<=8/\∀a∈p,qn a=true/\∀m∈a.methods,iy m=true/\gz m.nodes=true/\m.nodes.length<=1500:=by
 unfold hZ at hv;simp only[lγ,Bool.not_eq_true',cZ,lρ]at hv;obtain⟨t',ht'⟩:=Option.isSome_iff_exists.1 hv.2;exact⟨by omega,TJ p 0 t' ht' (fun a ha m hm=>((hb a ha).ns m hm).1) (by omega) (by omega)⟩
def abF (hd:pT a)(hv:qn a=true)(hm:∀m∈a.methods,iy m=true/\gz m.nodes=true/\m.nodes.length<=1500):Q1 a:=by
 have hD:=Ga hd hv;unfold qn at hv;simp only[lγ,Bool.not_eq_true',cZ,lρ,mυ]at hv;obtain⟨v1,v2,v3,v4⟩:=hv;refine⟨by omega,fun f hf=>⟨hD.fs f hf,?_⟩,by omega,fun m hmm=>?_⟩
 ·have h:=v4 f hf;simp only[Bool.not_eq_true',Bool.not_eq_false]at h;unfold dz at h;simp only[lγ]at h;exact oO h.2.1
 ·obtain⟨m1,m2,m3⟩:=hm m hmm;unfold iy at m1;simp only[lγ,Bool.not_eq_true',cZ,lρ,lσ]at m1;obtain⟨w1,w2,w3,w4⟩:=m1;obtain⟨t,t1,t2,t3,t4,-⟩:=wv m2;refine⟨by omega,fun q hq=>oO (w4 q hq).2,?_,by omega,⟨t,t2,t3,t4⟩,fun x hx=>adq ((hd.ns m hmm).2 x hx) ?_⟩
  ·cases hr:eqI m.result 0 with
   |true=>rw[bO,lδ]at hr;exact .inl hr
   |false=>
    rw[hr]at w3;exact .inr (oO (by simpa using w3))
  ·unfold gz at m2;simp only[lγ,lσ]at m2;exact(m2.2.2.1 x hx).2
def lT {α:Type}(W:α->List LN)(c:Nat):∀(l:List α),(∀x∈l,GWs (W x)/\(W x).length<=c)->GWs (aF (l.map W))/\(aF (l.map W)).length<=c*l.length
 |[],_=>⟨.nil,Nat.zero_le _⟩
 |a::r,h=>by
  obtain⟨h1,h2⟩:=h a (by simp);obtain⟨g1,g2⟩:=lT W c r fun x hx=>h x (by simp[hx])
  refine⟨h1.app g1,?_⟩;simp only[List.map_cons,aF,lα,List.length_cons,Nat.mul_succ];omega
def Vt {f:Fe}(hc:nh f.init)(hv:dz f=true):GWs (kO f)/\(kO f).length<=110:=by
 unfold dz at hv;simp only[lγ]at hv;obtain⟨g1,g2,g3,g4,-⟩:=hv;obtain⟨h1,h2⟩:=Ew g4 hc;refine⟨(GWs.cons (cM (w:=[115,116,97,116,101]) (by unfold fixW;simp)) (.cons (iY g1) (.cons (cM (w:=[58]) (by unfold fixW;simp)) (.cons (uJ (oO g2)) (f1 (w:=[61]) (by unfold fixW;simp)))))).app (h1.app (f1 (w:=[59]) (by unfold fixW;simp))),?_⟩;show([[115,116,97,116,101],f.name,[58],ct f.kind,[61]]++(kL f.init++[[59]])).length<=110;simp only[lα,List.length_cons,List.length_nil];omega
def VX (hv:iy m=true)(hb:gz m.nodes=true)(hl:m.nodes.length<=1500)(hd:∀x∈m.nodes,eV x):GWs (ll m)/\(ll m).length<=16600:=by
 unfold iy at hv;simp only[lγ,Bool.not_eq_true',cZ,lρ,lσ]at hv;obtain⟨v1,v2,v3,v4⟩:=hv;obtain⟨ks,-,-,h3,h4,h5⟩:=Pc hb;have hv:=Gb (P:=eV) (fun op nm v a b h=>h) hd _ 0 h5;obtain⟨t1,t2⟩:=CM _ h4 hv;have hp:=lT mu 3 m.params fun q hq=>⟨.cons (iY (v4 q hq).1) (.cons (cM (w:=[58]) (by unfold fixW;simp)) (.cons (uJ (oO (v4 q hq).2)) .nil)),by show 3<=3;omega⟩
 have hpl:=ri (m.params.map mu);rw[lζ]at hpl;have hr:GWs (tj m.result)/\(tj m.result).length<=2:=by
  unfold tj;cases hr:eqI m.result 0 with
  |true=>exact⟨.nil,by simp⟩
  |false=>
   rw[hr]at v3;exact⟨.cons (cM (w:=[58]) (by unfold fixW;simp)) (.cons (uJ (oO (by simpa using v3))) .nil),by simp⟩
 refine⟨(GWs.cons (cM (w:=[109,101,116,104,111,100]) (by unfold fixW;simp)) (.cons (iY v1) .nil)).app ((lX fun w hw=>?_).app (hr.1.app t1)),?_⟩
 ·obtain⟨q,hq,rfl⟩:=List.mem_map.1 hw;exact .cons (iY (v4 q hq).1) (.cons (cM (w:=[58]) (by unfold fixW;simp)) (.cons (uJ (oO (v4 q hq).2)) .nil))
 ·show([[109,101,116,104,111,100],m.name]++(bp (m.params.map mu)++(tj m.result++(nz m.nodes).w))).length<=_;simp only[lα,List.length_cons,List.length_nil];omega
def B9 (hv:hZ p=true)(hb:∀a∈p,pT a):GWs (fE p)/\(fE p).length<=3000000:=by
 obtain⟨h8,hall⟩:=zI hv hb;have key:=lT m4 300000 p fun a ha=>?_
 ·refine⟨key.1,?_⟩;have:=key.2;show(aF (p.map m4)).length<=_;omega
 ·obtain⟨h1,h2⟩:=hall a ha;have hD:=Ga (hb a ha) h1;unfold qn at h1;simp only[lγ,Bool.not_eq_true',cZ,lρ,mυ]at h1;obtain⟨v1,v2,v3,v4⟩:=h1;have hf:=lT kO 110 a.fields fun f hf=>Vt (hD.fs f hf) (by have:=v4 f hf;simpa using this)
  have hm:=lT ll 16600 a.methods fun m hm=>VX (h2 m hm).1 (h2 m hm).2.1 (h2 m hm).2.2 (hD.ns m hm).2
  refine⟨(GWs.cons (cM (w:=[97,99,116,111,114]) (by unfold fixW;simp)) (.cons (iY v1) (f1 (w:=[123]) (by unfold fixW;simp)))).app (hf.1.app (hm.1.app (f1 (w:=[125]) (by unfold fixW;simp)))),?_⟩;show([[97,99,116,111,114],a.name,[123]]++(aF (a.fields.map kO)++(aF (a.methods.map ll)++[[125]]))).length<=_;simp only[lα,List.length_cons,List.length_nil];have a1:=hf.2;have a2:=hm.2;omega
def ķ:∀{ws:List LN},GWs ws->(av ws).length<=261*ws.length
 |[],_=>Nat.le_refl _
 |w::r,h=>by
  have h1:=(h w (by simp)).2;have h2:=ķ (ws:=r) fun x hx=>h x (by simp[hx])
  simp only[av,lα,List.length_cons];omega
def TH:∀{ws:List LN},GWs ws->By (av ws)
 |[],_=>fun c hc=>by cases hc
 |w::r,h=>by
  have h1:=(h w (by simp)).1.by_;have h2:=TH (ws:=r) fun x hx=>h x (by simp[hx])
  intro c hc;simp only[av,mγ,mα]at hc;rcases hc with hc|rfl|hc
  ·exact h1 c hc
  ·rcases Tl w with h|h<;>rw[h]<;>decide
  ·exact h2 c hc
def Fa (hv:hZ p=true)(hb:∀a∈p,pT a):By (av (fE p))/\(av (fE p)).length<cm:=by
 obtain⟨h1,h2⟩:=B9 hv hb;have:=ķ h1;exact⟨TH h1,by unfold cm;omega⟩
def Im (hv:hZ p=true)(hb:∀a∈p,pT a)(hl:(av (fE p)).length<=6000):jQ (av (fE p)) 42020 6004=some (p,0,0):=by
 obtain⟨h1,-⟩:=B9 hv hb;obtain⟨T,e1,e2⟩:=æ (fE p) (fun w hw=>(h1 w hw).1) ((av (fE p)).length+1) 0 [] (by omega);have ht:jf (av (fE p))=(T,0,0):=by
  unfold jf;rw[tz (by omega),cond_false];unfold tkU at e1;rw[Nat.zero_add]at e1;exact e1
 obtain⟨r,hr⟩:=Cy (av (fE p)) (TH h1) hl (f:=42020) (q:=6004) (by omega) (by omega);obtain⟨k1,k2⟩:=TG (av (fE p)) (TH h1);rw[ht]at k1 k2;simp only at k1 k2;rw[hr];unfold jQ at hr;rw[ht]at hr;replace hr:nf T ((av (fE p)).length:Int) 42020 6004=some r:=hr;have hD:∀a∈p,W2 a:=fun a ha=>Ga (hb a ha) ((zI hv hb).2 a ha).1
 rw[MQ hv hD e2 k1 (by omega) (by omega) (by omega) hr]
def adj (h:SzA a):SzB 1501 a:=⟨h.fl,h.me,fun f hf=>⟨(h.ff f hf).iv,(h.ff f hf).lv⟩,fun m hm=>⟨(h.mm m hm).ps,(h.mm m hm).ns,fun x hx=>⟨((h.mm m hm).nx x hx).ks,((h.mm m hm).nx x hx).iv,((h.mm m hm).nx x hx).lv⟩⟩⟩
def adk (hl:p.length<1501)(h:∀a∈p,SzA a):SzP 1501 p:=⟨by omega,fun a ha=>⟨qα (h a ha).fl,qα (h a ha).me,fun f hf=>⟨qα ((h a ha).ff f hf).iv,qα ((h a ha).ff f hf).lv⟩,fun m hm=>⟨qα ((h a ha).mm m hm).ps,qα ((h a ha).mm m hm).ns,fun x hx=>⟨⟨qα (((h a ha).mm m hm).nx x hx).iv,qα (((h a ha).mm m hm).nx x hx).lv⟩,qα (((h a ha).mm m hm).nx x hx).ks⟩⟩⟩⟩
def TU {m:Nat}(p:List Ac)(hz:∀a∈p,SzB 1501 a)(hv:hZ p=true)(hd:∀a∈p,pT a)(hm:30000<=m):Ω m 10 [.p (.agg [.slice 3 (p.map Ac.e)])] []=some (pS (av (fE p)),[]):=by
 obtain⟨m,rfl⟩:∃k,m=k+1512:=⟨m - 1512,by omega⟩
 have h1:=IN (n:=m) p hz (by omega);rw[hv]at h1;obtain⟨h8,hall⟩:=zI hv hd;obtain⟨t1,t2⟩:=Fa hv hd;exact W5 p h1 (fun a ha=>abF (hd a ha) (hall a ha).1 (hall a ha).2) (by omega) (by omega) t1 t2
def afK (v:Va):Bool:=(v.L.all fun t=>!aO 100 (fG t))&&(aS (fG v.s) 100&&(aS (fG v.I) 40&&aS (fG v.L) 40))
def wBq {i:Nat}(h:i<1000000000000000):ae .i64 ((i:Int)+1)=((i+1:Nat):Int):=by
 rw[cz (by omega) (by omega)];omega
def ags {n:Nat}(v:Va)(h:v.L.length<n)(hb:v.L.length<1000000000000000):Ω (n+1) 15 [.p (.agg v.c)] []=some (pB (afK v),[]):=by
 apply agy n v.r;unfold af7 afK;refine(cd v.L (fun q i=>itL (Rs _ n _ _) q (i,v.r)) (fun t=>aO 100 (fG t)) (fun i=>some (pB false,[])) (some (pB (aS (fG v.s) 100&&(aS (fG v.I) 40&&aS (fG v.L) 40)),[])) (fun q i hi=>?_) (fun q=>?_) h).trans ?_
 ·rw[aM];simp only[Rs,show v.r.L=v.L.map Da.str from rfl,lζ,fd (show((i:Int)<(v.L.length:Int)) by omega),az,bg,bI hi,wBq (show i<1000000000000000 by omega)];exact qF _ _ _
 ·rw[aM];simp only[Rs,show v.r.L=v.L.map Da.str from rfl,show v.r.I=v.I.map iE from rfl,show v.r.S=v.s from rfl,lζ,dJ,aG,dB,AX,fG,Bool.and_true]
 all_goals grind
def smF (f:Fe):Bool:=!aO 100 (fG f.name)&&afK f.init
def smN (x:No):Bool:=!aO 100 (fG x.name)&&(!aO 60 (fG x.kids)&&afK x.v)
def smM:List Me->Int->Option Int
 |[],t=>some t
 |m::r,t=>bif aO 400 (ae .i64 (t+fG m.nodes))then none else bif aO 20 (fG m.params)then none else bif aO 100 (fG m.name)then none else bif m.nodes.all smN then smM r (ae .i64 (t+fG m.nodes))else none
def smA (a:Ac):Bool:=!aO 20 (fG a.fields)&&(!aO 20 (fG a.methods)&&(!aO 100 (fG a.name)&&a.fields.all smF))
def smP:List Ac->Int->Option Int
 |[],t=>some t
 |a::r,t=>bif smA a then(match smM a.methods t with|none=>none|some t=>smP r t)else none
def afP (p:List Ac):Bool:=!aO 20 (fG p)&&(smP p 0).isSome
structure LBV (n:Nat)(v:Va):Prop where
 l:v.L.length<n
 b:v.L.length<1000000000000000
structure LBA (n:Nat)(a:Ac):Prop where
 fl:a.fields.length<n
 me:a.methods.length<n
 ff:∀f∈a.fields,LBV n f.init
 mm:∀m∈a.methods,m.nodes.length<n/\m.nodes.length<1000000000000000/\∀x∈m.nodes,LBV n x.v
 pn:∀m∈a.methods,∀q∈m.params,q.name.length<9223372036854775808
def LBA.le {n n':Nat}(h:LBA n a)(hn:n<=n'):LBA n' a:=⟨by have:=h.fl;omega,by have:=h.me;omega,fun f hf=>⟨by have:=(h.ff f hf).l;omega,(h.ff f hf).b⟩,fun m hm=>⟨by have:=(h.mm m hm).1;omega,(h.mm m hm).2.1,fun x hx=>⟨by have:=((h.mm m hm).2.2 x hx).l;omega,((h.mm m hm).2.2 x hx).b⟩⟩,h.pn⟩
def ag5 {n:Nat}(a:Ac)(h:LBA n a)(hl:a.fields.length<1501)(P:bL)(i j:Int)(k0:bL×ba->R)(k1:Ep->R):itL (Sa (cE lay0.tab (n+1)) (n+1) k0 k1) (n+1) (i,j,0,P,a.r)=bif a.fields.all smF then k1 (i,j,(a.fields.length:Int),P,a.r)else k0 (P,a.r):=by
 refine(cd a.fields (fun q e=>itL (Sa _ (n+1) _ _) q (i,j,e,P,a.r)) (fun f=>!smF f) (fun _=>k0 (P,a.r)) (k1 (i,j,(a.fields.length:Int),P,a.r)) (fun q e he=>?_) (fun q=>?_) (by have:=h.fl;omega)).trans ?_
 ·have hv:=h.ff a.fields[e] (lπ _);have e1:=evC_known (ags (n:=n) a.fields[e].init hv.l hv.b);simp only[Va.c]at e1;show iL (aO (e:Int) ((a.fields.map Fe.e).length:Int)) (cL (cp (a.fields.map Fe.e) (e:Int)) fun x11=>cI x11 fun u12=>iL (aO 100 ↑(List.length u12.Name)) _ (cL (cp (a.fields.map Fe.e) (e:Int)) fun x13=>_)) _=_
  simp only[lζ,fd (show((e:Int)<(a.fields.length:Int)) by omega),bg,cS,bI he,bH,dFe,wS (show e<bX by unfold bX;omega),show ∀f:Fe,f.r.Name=f.name from fun _=>rfl,show ∀f:Fe,f.r.Init_Kind=f.init.k from fun _=>rfl,show ∀f:Fe,f.r.Init_N=f.init.n from fun _=>rfl,show ∀f:Fe,f.r.Init_S=f.init.s from fun _=>rfl,show ∀f:Fe,f.r.Init_I=f.init.I.map iE from fun _=>rfl,show ∀f:Fe,f.r.Init_L=f.init.L.map .str from fun _=>rfl,e1,smF,fG];refine Eq.trans ?_ (qF _ _ _);cases aO 100 (a.fields[e].name.length:Int)<;>cases afK a.fields[e].init<;>rfl
 ·show iL (aO (a.fields.length:Int) ((a.fields.map Fe.e).length:Int)) _ _=_;simp only[lζ,dJ,aG]
 all_goals grind
def ag6 {n:Nat}(m:Me)(hx:∀x∈m.nodes,LBV n x.v)(hn:m.nodes.length<n)(hl:m.nodes.length<1501)(P:bL)(A:ba)(i j k:Int)(k0:bL×ba×bf->R)(k1:Kp->R):itL (f4 (cE lay0.tab (n+1)) (n+1) k0 k1) (n+1) (i,j,k,0,P,A,m.r)=bif m.nodes.all smN then k1 (i,j,k,(m.nodes.length:Int),P,A,m.r)else k0 (P,A,m.r):=by
 refine(cd m.nodes (fun q e=>itL (f4 _ (n+1) _ _) q (i,j,k,e,P,A,m.r)) (fun x=>!smN x) (fun _=>k0 (P,A,m.r)) (k1 (i,j,k,(m.nodes.length:Int),P,A,m.r)) (fun q e he=>?_) (fun q=>?_) (by omega)).trans ?_
 ·rw[aM];have hv:=hx m.nodes[e] (lπ _);have e1:=evC_known (ags (n:=n) m.nodes[e].v hv.l hv.b);simp only[Va.c]at e1;simp only[f4,show m.r.Nodes=m.nodes.map No.e from rfl,fd (show((e:Int)<(m.nodes.length:Int)) by omega),bg,cS,bI he,bH,Vb,wS (show e<bX by unfold bX;omega),nr2,nr3,nr4,nr5,nr6,nr7,Ő,lζ,e1,smN,fG];refine Eq.trans ?_ (qF _ _ _);cases aO 100 (m.nodes[e].name.length:Int)<;>cases aO 60 (m.nodes[e].kids.length:Int)<;>cases afK m.nodes[e].v<;>rfl
 ·rw[aM];simp only[f4,show m.r.Nodes=m.nodes.map No.e from rfl,lζ,dJ,aG]
 all_goals grind
def ag0 {n:Nat}(a:Ac)(h:LBA n a)(hl:a.methods.length<1501)(P:bL)(i:Int)(k0:bL×ba×bf->R)(k1:Es->R)(Z:R)(hk0:∀x,k0 x=Z):∀(e q j:Nat) (t:Int),j+e=a.methods.length->e<q->0<=t->t<=400->
  itL (LJ (cE lay0.tab (n+1)) (n+1) k0 k1) q (t,i,(j:Int),P,a.r)=match smM (a.methods.drop j) t with|none=>Z|some t=>k1 (t,i,(a.methods.length:Int),P,a.r)
 |0,q+1,j,t,he,_,_,_=>by
  obtain rfl:j=a.methods.length:=by omega
  rw[aM];simp only[LJ,show a.r.Methods=a.methods.map Me.e from rfl,lζ,dJ,aG,List.drop_length,smM]
 |e+1,q+1,j,t,he,hq,h0,h4=>by
  have hj:j<a.methods.length:=by omega
  obtain⟨g1,g2,g3⟩:=h.mm a.methods[j] (lπ _);rw[aM,lι hj];simp only[LJ,show a.r.Methods=a.methods.map Me.e from rfl,lζ,fd (show((j:Int)<(a.methods.length:Int)) by omega),az,bg,cS,bI hj,bH,dMe,wS (show j<bX by unfold bX;omega),show ∀m:Me,m.r.Nodes=m.nodes.map No.e from fun _=>rfl,show ∀m:Me,m.r.Params=m.params.map Pa.e from fun _=>rfl,show ∀m:Me,m.r.Name=m.name from fun _=>rfl,lζ,hk0,smM,fG];have hw:ae .i64 (t+(a.methods[j].nodes.length:Int))=t+(a.methods[j].nodes.length:Int):=cz (by omega) (by omega);rw[hw];by_cases hg:400<t+(a.methods[j].nodes.length:Int)
  ·rw[fd hg];rfl
  ·rw[tz hg];cases aO 20 (a.methods[j].params.length:Int)
   ·cases aO 100 (a.methods[j].name.length:Int)
    ·simp only[aG,cond_false];have hs:=fun kk=>ag6 (n:=n) a.methods[j] g3 g1 (by omega) P a.r (t+(a.methods[j].nodes.length:Int)) i (j:Int) (fun(u50,u51,u52)=>Z) kk
     refine Eq.trans (hs _) ?_;cases a.methods[j].nodes.all smN
     ·rfl
     ·simp only[cond_true,wS (show j<bX by unfold bX;omega)];exact ag0 a h hl P i k0 k1 Z hk0 e q (j+1) (t+(a.methods[j].nodes.length:Int)) (by omega) (by omega) (by omega) (by omega)
    ·rfl
   ·rfl
def afZ:∀(l:List Me) (t t':Int),smM l t=some t'->(∀m∈l,m.nodes.length<1000000000000000)->0<=t->t<=400->0<=t'/\t'<=400/\∀m∈l,m.nodes.length<=400/\m.params.length<=20/\m.nodes.all smN=true
 |[],t,t',h,_,h0,h4=>by
  simp only[smM,lβ]at h;simp_all
 |m::r,t,t',h,hb,h0,h4=>by
  have hm:=hb m (mπ ..);simp only[smM,fG]at h;have hw:ae .i64 (t+(m.nodes.length:Int))=t+(m.nodes.length:Int):=cz (by omega) (by omega);rw[hw]at h;by_cases hg:400<t+(m.nodes.length:Int)
  ·rw[fd hg]at h;cases h
  ·rw[tz hg]at h;by_cases h20:20<(m.params.length:Int)
   ·rw[fd h20]at h;cases h
   ·rw[tz h20]at h;cases h100:aO 100 (m.name.length:Int)with
    |true=>simp_all
    |false=>
     rw[h100]at h;cases ha:m.nodes.all smN with
     |false=>simp_all
     |true=>
      rw[ha]at h;obtain⟨g1,g2,g3⟩:=afZ r _ t' h (fun x hx=>hb x (mω _ hx)) (by omega) (by omega);grind
def ag1 {n:Nat}(p:List Ac)(h:∀a∈p,LBA n a)(hl:p.length<1501)(k0:bL×ba->R)(k1:bL×ba×bf->R)(k2:sv->R)(Z W:R)(hk0:∀x,k0 x=Z)(hk1:∀x,k1 x=Z)(hk2:∀x,k2 x=W):∀(e q j:Nat) (t:Int),j+e=p.length->e<q->0<=t->t<=400->
  itL (Ls (cE lay0.tab (n+1)) (n+1) k0 k1 k2) q (t,(j:Int),⟨p.map Ac.e⟩)=match smP (p.drop j) t with|none=>Z|some _=>W
 |0,q+1,j,t,he,_,_,_=>by
  obtain rfl:j=p.length:=by omega
  rw[aM];simp only[Ls,lζ,dJ,aG,List.drop_length,smP,hk2]
 |e+1,q+1,j,t,he,hq,h0,h4=>by
  have hj:j<p.length:=by omega
  have ha:=h p[j] (lπ _);rw[aM,lι hj];simp only[Ls,lζ,fd (show((j:Int)<(p.length:Int)) by omega),az,bg,cS,bI hj,bH,dAc,show p[j].r.Fields=p[j].fields.map Fe.e from rfl,show p[j].r.Methods=p[j].methods.map Me.e from rfl,show p[j].r.Name=p[j].name from rfl,hk0,hk1,smP,smA,fG];by_cases hf:20<(p[j].fields.length:Int)
  ·rw[fd hf];rfl
  ·rw[tz hf];by_cases hm:20<(p[j].methods.length:Int)
   ·rw[fd hm];rfl
   ·rw[tz hm];cases aO 100 (p[j].name.length:Int)
    ·simp only[aG,Bool.not_false,Bool.true_and];have hs:=fun kk=>ag5 (n:=n) p[j] ha (by omega) ⟨p.map Ac.e⟩ t (j:Int) (fun(u19,u20)=>Z) kk
     refine Eq.trans (hs _) ?_;cases p[j].fields.all smF
     ·rfl
     ·have hs2:=fun kk=>ag0 (n:=n) p[j] ha (by omega) ⟨p.map Ac.e⟩ (j:Int) (fun(u60,u61,u62)=>Z) kk Z (fun _=>rfl) p[j].methods.length (n+1) 0 t (by omega) (by have:=ha.me;omega) h0 h4
      simp only[show((0:Nat):Int)=0 from rfl,List.drop_zero]at hs2;simp only[cond_true];refine Eq.trans (hs2 _) ?_;cases hsm:smM p[j].methods t with
      |none=>rfl
      |some t'=>
       obtain⟨g1,g2,_⟩:=afZ _ _ _ hsm (fun m hm=>(ha.mm m hm).2.1) h0 h4;simp only[wS (show j<bX by unfold bX;omega)];exact ag1 p h hl k0 k1 k2 Z W hk0 hk1 hk2 e q (j+1) t' (by omega) (by omega) g1 g2
    ·rfl
def agD {n:Nat}(p:List Ac)(hp:p.length<n)(h:∀a∈p,LBA n a):Ω (n+2) 8 [.p (.agg [.slice 3 (p.map Ac.e)])] []=some (pB (afP p),[]):=by
 apply agx (n+1) ⟨p.map Ac.e⟩;unfold af6 afP;simp only[lζ,fG];by_cases hl:20<(p.length:Int)
 ·rw[fd hl];rfl
 ·rw[tz hl];refine(ag1 (n:=n) p h (by omega) _ _ _ (some (pB false,[])) (some (pB true,[])) (fun _=>rfl) (fun _=>rfl) (fun _=>rfl) p.length (n+1) 0 0 (by omega) (by omega) (by omega) (by omega)).trans ?_;rw[List.drop_zero];cases smP p 0<;>rfl
def af5 {v:Va}(h:afK v=true):v.I.length<1501/\v.L.length<1501:=by
 unfold afK fG at h;simp only[lγ,cn,lδ]at h;omega
def agB:∀(l:List Ac) (t t':Int),smP l t=some t'->(∀a∈l,∀m∈a.methods,m.nodes.length<1000000000000000)->0<=t->t<=400->∀a∈l,SzA a
 |[],_,_,_,_,_,_,a,ha=>by cases ha
 |x::r,t,t',h,hb,h0,h4,a,ha=>by
  simp only[smP]at h;cases hx:smA x with
  |false=>simp_all
  |true=>
   rw[hx]at h;cases hs:smM x.methods t with
   |none=>simp_all
   |some t1=>
    rw[hs]at h;obtain⟨g1,g2,g3⟩:=afZ _ _ _ hs (hb x (mπ ..)) h0 h4;rcases mα.1 ha with rfl|ha
    ·unfold smA fG at hx;simp only[lγ,Bool.not_eq_true',cZ,lρ,lσ]at hx;obtain⟨q1,q2,_,q4⟩:=hx;refine⟨by omega,by omega,fun f hf=>?_,fun m hm=>?_⟩
     ·have:=q4 f hf;unfold smF at this;rw[lγ]at this;exact⟨(af5 this.2).1,(af5 this.2).2⟩
     ·obtain⟨w1,w2,w3⟩:=g3 m hm;refine⟨by omega,by omega,fun y hy=>?_⟩
      have:=lσ.1 w3 y hy;unfold smN fG at this;simp only[lγ,Bool.not_eq_true',cZ,lρ]at this;exact⟨(af5 this.2.2).1,(af5 this.2.2).2,by omega⟩
    ·exact agB r t1 t' h (fun b hb'=>hb b (mω _ hb')) g1 g2 a ha
def agC {n:Nat}(h:afP p=true)(hb:∀a∈p,LBA n a):p.length<1501/\∀a∈p,SzA a:=by
 unfold afP fG at h;simp only[lγ,Bool.not_eq_true',cZ,lρ]at h;obtain⟨t,ht⟩:=Option.isSome_iff_exists.1 h.2;exact⟨by omega,agB p 0 t ht (fun a ha m hm=>((hb a ha).mm m hm).2.1) (by omega) (by omega)⟩
def agv {m:Nat}(p:List Ac)(hm:800000<=m)(hp:p.length+2<m)(hL:∀a∈p,LBA (m - 2) a)(hd:∀a∈p,pT a)(ha:Ω m 7 [] []=some (pB true,[])):Ω (m+1) 3 [.p (.agg [.slice 3 (p.map Ac.e)])] []=some (pB true,[]):=by
 apply agw m ⟨p.map Ac.e⟩;unfold af2;have e0:∀l:LD,(bL.mk l).e= .agg [.slice 3 l]:=fun _=>rfl
 simp only[evC_known ha,aE,aj,ah,Bool.not_true,aG,e0];have hS:Ω m 8 [.p (.agg [.slice 3 (p.map Ac.e)])] []=some (pB (afP p),[]):=by
  obtain⟨n,rfl⟩:∃n,m=n+2:=⟨m - 2,by omega⟩
  exact agD p (by omega) (by simpa using hL)
 simp only[evC_known hS,aE,aj,ah];cases hs:afP p with
 |false=>rfl
 |true=>
  obtain⟨hl,hz⟩:=agC hs hL;have hB:∀a∈p,SzB 1501 a:=fun a ha=>adj (hz a ha)
  have hV:Ω m 9 [.p (.agg [.slice 3 (p.map Ac.e)])] []=some (pB (hZ p),[]):=by
   obtain⟨n,rfl⟩:∃n,m=n+1511:=⟨m - 1511,by omega⟩
   exact IN p hB (by omega)
  simp only[Bool.not_true,aG,evC_known hV,aE,aj,ah];cases hv:hZ p with
  |false=>rfl
  |true=>
   have hF:=evC_known (TU (m:=m) p hB hv hd (by omega));simp only[Bool.not_true,aG,hF,aE,fo,ah];obtain⟨t1,t2⟩:=Fa hv hd;cases h6:aO 6000 ((av (fE p)).length:Int)with
   |true=>rfl
   |false=>
    rw[cZ,lρ]at h6;have hsrc:=Im hv hd (by omega);have hY:=evC_known (vY (m:=m) (by omega) (by omega) (by omega) t1 hsrc);have hSa:=evC_known (Ŝ (m:=m) p (adk hl hz) (by omega) (by unfold bX;omega));simp only[aG,hY,e0,MU,aL,iR,aE,dPg,aW,ah,nD,az,hSa,aj,eg,hF,fo,K8]
section
def agG:LN->LN->Bool
 |[],[]=>true
 |a::r,b::s=>Nat.beq a b&&agG r s
 |_,_=>false
def agu:∀{a b:LN},agG a b=true->a=b
 |[],[],_=>rfl
 |[],_::_,h=>by cases h
 |_::_,[],h=>by cases h
 |a::r,b::s,h=>by
  simp only[agG,lγ]at h;rw[lη h.1,agu h.2]
def afX (P:Program)(k:IntKind)(t:TypeId):Bool:=match P.underlying t with|some (.int k')=>decide (k'=k)|_=>false
def afY (P:Program)(t:TypeId):Bool:=match P.underlying t with|some .string=>true|_=>false
def afN (P:Program)(t e z:Nat):Bool:=match P.underlying t with|some (.slice e')=>Nat.beq e' e&&Nat.beq (P.cellsOf e) z|_=>false
def afI (P:Program)(t:Nat)(ts:LN):Bool:=match P.underlying t with|some (.struct fs)=>agG (fs.toList.map (·.type)) ts|_=>false
def af4 (C:TypeId->LD->Prop):List TypeId->LD->Prop
 |[],xs=>xs=[]
 |t::r,xs=>∃ys zs,xs=ys++zs/\C t ys/\af4 C r zs
def afW {C:TypeId->LD->Prop}:∀{fs:List Field} {xs:LD},Bf C fs xs->af4 C (fs.map (·.type)) xs
 |[],_,h=>h
 |f::r,xs,⟨ys,zs,h1,h2,h3⟩=>⟨ys,zs,h1,h2,afW h3⟩
section
variable {P:Program} {B:TypeId->Nat} {n t:Nat} {xs:LD} {x:Da}
def afM {k:IntKind}(h:afX P k t=true)(hc:eK P B (n+1) t xs):∃i,xs=[.int k i]/\(Lit.int k i).wf=true:=by
 unfold afX at h;simp only[eK]at hc;split at h
 ·rename_i hu;rw[hu]at hc;have:=of_decide_eq_true h;subst this;exact hc
 ·cases h
def Ts (h:afY P t=true)(hc:eK P B (n+1) t xs):∃s,xs=[.str s]/\s.length<9223372036854775808/\By s:=by
 unfold afY at h;simp only[eK]at hc;split at h
 ·rename_i hu;rw[hu]at hc;obtain⟨s,rfl,hl,hb⟩:=hc;have:maxLen=9223372036854775807:=rfl;exact⟨s,rfl,by omega,hb⟩
 ·cases h
def af0 {e z:Nat}(h:afN P t e z=true)(hc:eK P B (n+1) t xs):∃es,xs=[.slice z es]/\es.length<=B e/\∀x∈es,rR P (eK P B n) e x:=by
 unfold afN at h;simp only[eK]at hc;split at h
 ·rename_i hu;rw[hu]at hc;rw[lγ]at h;obtain⟨es,rfl,_,h2,h3⟩:=hc;have h4:=lη h.1;subst h4;rw[lη h.2];exact⟨es,rfl,h2,h3⟩
 ·cases h
variable {ts:LN}
def af1 (h:afI P t ts=true)(hc:eK P B (n+1) t xs):af4 (eK P B n) ts xs:=by
 unfold afI at h;simp only[eK]at hc;split at h
 ·rename_i hu;rw[hu]at hc;rw[<-agu h];exact afW hc
 ·cases h
def afO {C:TypeId->LD->Prop}(h:afI P t ts=true)(hc:rR P C t x):∃cs,x= .agg cs/\C t cs:=by
 unfold afI at h;unfold rR at hc;split at h
 ·rename_i hu;have:wJ P t=true:=by unfold wJ;rw[hu]
  rw[this]at hc;exact hc
 ·cases h
def agE {k:IntKind}{C:TypeId->LD->Prop}(h:afX P k t=true)(hc:rR P C t x):C t [x]:=by
 unfold afX at h;unfold rR at hc;split at h
 ·rename_i hu;have:wJ P t=false:=by unfold wJ;rw[hu]
  rw[this]at hc;exact hc
 ·cases h
def agF {C:TypeId->LD->Prop}(h:afY P t=true)(hc:rR P C t x):C t [x]:=by
 unfold afY at h;unfold rR at hc;split at h
 ·rename_i hu;have:wJ P t=false:=by unfold wJ;rw[hu]
  rw[this]at hc;exact hc
 ·cases h
end
def hO {α:Type}{f:α->Da}{Q:α->Prop}:∀{es:LD},(∀x∈es,∃a,x=f a/\Q a)->∃l:List α,es=l.map f/\∀a∈l,Q a
 |[],_=>⟨[],rfl,fun _ h=>by cases h⟩
 |x::es,h=>by
  obtain⟨a,rfl,ha⟩:=h x (mπ ..);obtain⟨l,rfl,hl⟩:=hO (es:=es) fun y hy=>h y (mω _ hy)
  refine⟨a::l,rfl,fun b hb=>?_⟩
  rcases mα.1 hb with rfl|hb
  ·exact ha
  ·exact hl b hb
abbrev CT (n t:Nat)(xs:LD):Prop:=eK prog0 Bn n t xs
abbrev DT (n t:Nat)(x:Da):Prop:=rR prog0 (eK prog0 Bn n) t x
def isI:afX prog0 .i64 3=true:=by kernel_rfl
def af8:afY prog0 9=true:=by kernel_rfl
def ag3:afN prog0 44 3 1=true:=by kernel_rfl
def ag4:afN prog0 45 9 1=true:=by kernel_rfl
def agZ:afI prog0 47 [3,3,9,44,45]=true:=by kernel_rfl
def agA:afI prog0 55 [3,9,47,44]=true:=by kernel_rfl
def agL:afI prog0 73 [9,3]=true:=by kernel_rfl
def agJ:afI prog0 49 [9,3,47]=true:=by kernel_rfl
def agH:afN prog0 51 55 8=true:=by kernel_rfl
def agT:afN prog0 50 73 2=true:=by kernel_rfl
def agR:afN prog0 38 49 7=true:=by kernel_rfl
def agK:afI prog0 53 [9,50,3,51]=true:=by kernel_rfl
def agS:afN prog0 39 53 4=true:=by kernel_rfl
def agX:afI prog0 41 [9,38,39]=true:=by kernel_rfl
def agY:afN prog0 22 41 3=true:=by kernel_rfl
def agM:afI prog0 24 [22]=true:=by kernel_rfl
abbrev Rg (i:Int):Prop:= -9223372036854775808<=i/\i<=9223372036854775807
def agN {i:Int}(h:(Lit.int .i64 i).wf=true):Rg i:=by
 simp only[Lit.wf,lγ,lδ]at h;have h1:IntKind.i64.min= -9223372036854775808:=rfl;have h2:IntKind.i64.max=9223372036854775807:=rfl;rw[h1,h2]at h;exact⟨by omega,by omega⟩
variable {xs:LD}
def agz {n:Nat}(h:CT (n+2) 44 xs):∃l:LI,xs=[.slice 1 (l.map iE)]/\l.length<=1048576/\∀i∈l,Rg i:=by
 obtain⟨es,rfl,h1,h2⟩:=af0 ag3 h;obtain⟨l,rfl,hl⟩:=hO (f:=iE) (Q:=Rg) (es:=es) fun x hx=>by
  obtain⟨i,e,hw⟩:=afM isI (agE isI (h2 x hx));simp only[mη,and_true]at e;exact⟨i,e,agN hw⟩
 exact⟨l,rfl,by simpa using h1,hl⟩
def agO {n:Nat}(h:CT (n+2) 45 xs):∃l:List LN,xs=[.slice 1 (l.map .str)]/\l.length<=1048576/\∀s∈l,By s:=by
 obtain⟨es,rfl,h1,h2⟩:=af0 ag4 h;obtain⟨l,rfl,hl⟩:=hO (f:=Da.str) (Q:=By) (es:=es) fun x hx=>by
  obtain⟨i,e,-,hb⟩:=Ts af8 (agF af8 (h2 x hx));simp only[mη,and_true]at e;exact⟨i,e,hb⟩
 exact⟨l,rfl,by simpa using h1,hl⟩
def Va.cs (v:Va):LD:=[.int .i64 v.k,.int .i64 v.n,.str v.s,.slice 1 (v.I.map iE),.slice 1 (v.L.map .str)]
def agI {n:Nat}(h:CT (n+3) 47 xs):∃v:Va,xs=v.cs/\LBV 1048577 v/\rK v:=by
 obtain⟨_,_,rfl,h1,_,_,rfl,h2,_,_,rfl,h3,_,_,rfl,h4,_,_,rfl,h5,rfl⟩:=af1 agZ h;obtain⟨k,rfl,_⟩:=afM isI h1;obtain⟨m,rfl,hm⟩:=afM isI h2;obtain⟨s,rfl,-,hs⟩:=Ts af8 h3;obtain⟨I,rfl,-,hI⟩:=agz h4;obtain⟨L,rfl,hL,hb⟩:=agO h5;exact⟨⟨k,m,s,I,L⟩,rfl,⟨by show L.length<_;omega,by show L.length<_;omega⟩,⟨agN hm,hs,hI,hb⟩⟩
variable {x:Da}
def agP {n:Nat}(h:DT (n+4) 55 x):∃a:No,x=a.e/\LBV 1048577 a.v/\rK a.v:=by
 obtain⟨cs,rfl,g⟩:=afO agA h;obtain⟨_,_,rfl,h1,_,_,rfl,h2,_,_,rfl,h3,_,_,rfl,h4,rfl⟩:=af1 agA g;obtain⟨k,rfl,_⟩:=afM isI h1;obtain⟨s,rfl,-⟩:=Ts af8 h2;obtain⟨v,rfl,hv⟩:=agI h3;obtain⟨I,rfl,_⟩:=agz h4;exact⟨⟨k,s,v,I⟩,rfl,hv⟩
def agW {n:Nat}(h:DT (n+2) 73 x):∃a:Pa,x=a.e/\a.name.length<9223372036854775808:=by
 obtain⟨cs,rfl,g⟩:=afO agL h;obtain⟨_,_,rfl,h1,_,_,rfl,h2,rfl⟩:=af1 agL g;obtain⟨s,rfl,hs,-⟩:=Ts af8 h1;obtain⟨k,rfl,_⟩:=afM isI h2;exact⟨⟨s,k⟩,rfl,hs⟩
def agU {n:Nat}(h:DT (n+4) 49 x):∃a:Fe,x=a.e/\LBV 1048577 a.init/\rK a.init:=by
 obtain⟨cs,rfl,g⟩:=afO agJ h;obtain⟨_,_,rfl,h1,_,_,rfl,h2,_,_,rfl,h3,rfl⟩:=af1 agJ g;obtain⟨s,rfl,-⟩:=Ts af8 h1;obtain⟨k,rfl,_⟩:=afM isI h2;obtain⟨v,rfl,hv⟩:=agI h3;exact⟨⟨s,k,v⟩,rfl,hv⟩
def agV {n:Nat}(h:DT (n+6) 53 x):∃a:Me,x=a.e/\a.nodes.length<=1048576/\(∀y∈a.nodes,LBV 1048577 y.v/\rK y.v)/\∀q∈a.params,q.name.length<9223372036854775808:=by
 obtain⟨cs,rfl,g⟩:=afO agK h;obtain⟨_,_,rfl,h1,_,_,rfl,h2,_,_,rfl,h3,_,_,rfl,h4,rfl⟩:=af1 agK g;obtain⟨s,rfl,-⟩:=Ts af8 h1;obtain⟨ps,rfl,_,h2⟩:=af0 agT h2;obtain⟨k,rfl,_⟩:=afM isI h3;obtain⟨ns,rfl,hl,h4⟩:=af0 agH h4;obtain⟨ps,rfl,hq⟩:=hO (f:=Pa.e) (Q:=fun a=>a.name.length<9223372036854775808) (es:=ps) fun x hx=>agW (h2 x hx)
 obtain⟨ns,rfl,hv⟩:=hO (f:=No.e) (Q:=fun a=>LBV 1048577 a.v/\rK a.v) (es:=ns) fun x hx=>agP (h4 x hx)
 exact⟨⟨s,ps,k,ns⟩,rfl,by simpa using hl,hv,hq⟩
def ag2 {n:Nat}(h:DT (n+8) 41 x):∃a:Ac,x=a.e/\LBA 1048577 a/\pT a:=by
 obtain⟨cs,rfl,g⟩:=afO agX h;obtain⟨_,_,rfl,h1,_,_,rfl,h2,_,_,rfl,h3,rfl⟩:=af1 agX g;obtain⟨s,rfl,-⟩:=Ts af8 h1;obtain⟨fs,rfl,hf,h2⟩:=af0 agR h2;obtain⟨ms,rfl,hm,h3⟩:=af0 agS h3;obtain⟨fs,rfl,hv⟩:=hO (f:=Fe.e) (Q:=fun a=>LBV 1048577 a.init/\rK a.init) (es:=fs) fun x hx=>agU (h2 x hx)
 obtain⟨ms,rfl,hw⟩:=hO (f:=Me.e) (Q:=fun a=>a.nodes.length<=1048576/\(∀y∈a.nodes,LBV 1048577 y.v/\rK y.v)/\∀q∈a.params,q.name.length<9223372036854775808) (es:=ms) fun x hx=>agV (h3 x hx)
 rw[lζ]at hf hm;replace hf:fs.length<=1048576:=hf;replace hm:ms.length<=1048576:=hm;exact⟨⟨s,fs,ms⟩,rfl,⟨by show fs.length<_;omega,by show ms.length<_;omega,fun f hf=>(hv f hf).1,fun m hmm=>⟨by have:=(hw m hmm).1;omega,by have:=(hw m hmm).1;omega,fun y hy=>((hw m hmm).2.1 y hy).1⟩,fun m hmm=>(hw m hmm).2.2⟩,⟨fun f hf=>(hv f hf).2,fun m hmm=>⟨by have:=(hw m hmm).1;omega,fun y hy=>((hw m hmm).2.1 y hy).2⟩⟩⟩
def agQ {n:Nat}(h:DT (n+10) 24 x):∃p:List Ac,x= .agg [.slice 3 (p.map Ac.e)]/\p.length<1048577/\∀a∈p,LBA 1048577 a/\pT a:=by
 obtain⟨cs,rfl,g⟩:=afO agM h;obtain⟨_,_,rfl,h1,rfl⟩:=af1 agM g;obtain⟨ts,rfl,hl,h1⟩:=af0 agY h1;obtain⟨p,rfl,hp⟩:=hO (f:=Ac.e) (Q:=fun a=>LBA 1048577 a/\pT a) (es:=ts) fun x hx=>ag2 (h1 x hx)
 rw[lζ]at hl;replace hl:p.length<=1048576:=hl;exact⟨p,rfl,by omega,hp⟩
def run_SyntaxBack:∀xs,Pw (rR prog0 (eK prog0 Bn 12)) [24] xs->∃N,Ω N 3 (xs.map .p) []=some (pB true,[]):=by
 intro xs h;obtain⟨x1,r1,rfl,h1,h⟩:=h.cons_inv;obtain rfl:=h.nil_inv;obtain⟨p,rfl,hl,hb⟩:=agQ (n:=2) h1;obtain⟨m,hm,hm2⟩:∃m,1200000<=m+1/\m+1=1200000:=⟨1199999,by omega,by omega⟩
 exact⟨m+1+1,agv (m:=m+1) p (by omega) (by omega) (fun a ha=>(hb a ha).1.le (by omega)) (fun a ha=>(hb a ha).2) (œ (n:=m))⟩
end
end
end Go.Ab
