import Derived.Test.YtbgddkffhndjcaaGreatDoorKg1
import Derived.Test.YtbgddkffhndjcaaGreatDoorOg2
import Derived.Test.YtbgddkffhndjcaaGreatDoorKg0
import Derived.Test.YtbgddkffhndjcaaGreatDoorOg3
set_option linter.all false
namespace Go.Ab
open Go
set_option maxRecDepth 100000
noncomputable section
def hexL:LN:=[48,49,50,51,52,53,54,55,56,57,97,98,99,100,101,102]
def yQ (k:Nat):Nat:=hexL.getD k 0
def DC (c:Nat):LN:=bif w9 (c:Int)then[c]else bif eqI (c:Int) 34||eqI (c:Int) 92 then[92,c]else[92,120,yQ (c / 16),yQ (c % 16)]
def lm:LN->LN
 |[]=>[]
 |c::r=>DC c++lm r
def gv (s:LN):LN:=34::(lm s++[34])
def hiT (c:Nat):Option Nat:=bif aS 0 (Int.fdiv (Int.ofNat c) (2 ^ min (Int.toNat 4) (IntKind.bits .u8)))then[48,49,50,51,52,53,54,55,56,57,97,98,99,100,101,102][Int.toNat (Int.fdiv (Int.ofNat c) (2 ^ min (Int.toNat 4) (IntKind.bits .u8)))]? else none
def loT (c:Nat):Option Nat:=bif aS 0 (ae .u8 ↑(BitVec.toNat (BitVec.ofInt (IntKind.bits .u8) (Int.ofNat c) &&& BitVec.ofInt (IntKind.bits .u8) 15)))then[48,49,50,51,52,53,54,55,56,57,97,98,99,100,101,102][Int.toNat (ae .u8 ↑(BitVec.toNat (BitVec.ofInt (IntKind.bits .u8) (Int.ofNat c) &&& BitVec.ofInt (IntKind.bits .u8) 15)))]? else none
def acu:((List.range 256).all fun c=>hiT c==some (yQ (c / 16)))=true:=by rfl
def acH:((List.range 256).all fun c=>loT c==some (yQ (c % 16)))=true:=by rfl
def afs {c:Nat}(h:c<256):hiT c=some (yQ (c / 16)):=by simpa using lσ.1 acu c (List.mem_range.2 h)
def afy {c:Nat}(h:c<256):loT c=some (yQ (c % 16)):=by simpa using lσ.1 acH c (List.mem_range.2 h)
def Td (c:Nat):(DC c).length<=4:=by
 unfold DC;grind
def Ce:∀s:LN,(lm s).length<=4*s.length
 |[]=>by decide
 |c::r=>by
  have:=Td c;have:=Ce r;simp only[lm,lα,List.length_cons];omega
def MW {m:Nat}(s:LN)(hb:By s)(hm:1<=m)(hs:s.length<bX)(k0:LN×Nat×Int×Int×Bool×LD->R):∀(r:LN) (q i:Nat) (o:LN),s.drop i=r->r.length<q->i<=s.length->o.length+4*r.length<cm->
  itL (jx (cE lay0.tab m) m k0) q (s,o.length,(s.length:Int),(i:Int),o.map tv)=k0 (s,(o++lm r).length,(s.length:Int),(s.length:Int),false,(o++lm r).map tv)
 |[],q,i,o,hd,hq,hi,hl=>by
  cases q with
  |zero=>omega
  |succ q=>
   have hil:i=s.length:=by
    grind
   subst hil;rw[aM];simp only[jx,dJ,aG,lm,lν]
 |c::r,q,i,o,hd,hq,hi,hl=>by
  cases q with
  |zero=>omega
  |succ q=>
   have hlt:i<s.length:=by
    grind
   rw[lι hlt]at hd;injection hd with ht hd;simp at hq hl;have hc:c<256:=hb c (ht▸lπ hlt);have e1:=evC_known (IX (m:=m) (c:Int) hm);have hbe:Nat.beq o.length (o.map tv).length=true:=by simp
   have key:∀x:LN,x=DC c->itL (jx (cE lay0.tab m) m k0) q (s,(o.map tv++x.map tv).length,(s.length:Int),((i+1:Nat):Int),o.map tv++x.map tv)=k0 (s,(o++lm (c::r)).length,(s.length:Int),(s.length:Int),false,(o++lm (c::r)).map tv):=fun x hx=>by
    have:=Td c;have ih:=MW s hb hm hs k0 r q (i+1) (o++DC c) hd (by omega) hlt (by grind);have hfin:o++DC c++lm r=o++lm (c::r):=by simp only[lm,lε]
    simp_all
   rw[aM];simp only[jx,fd (show((i:Int)<(s.length:Int)) by omega),ji (show(0:Int)<=(i:Int) by omega),cond_true,Int.toNat_natCast,lθ hlt,bH,ht,V2,e1,aE,aj,wS (show i<bX by omega),hbe];have hbig:∀x:LD,x.length<=4->cO ((o.map tv).length+x.length) 1=true:=fun x hx=>Kq (by grind)
   unfold DC at key;cases hp:w9 (c:Int)with
   |true=>
    rw[hp,cond_true]at key;rw[az,hbig _ (by simp),az];exact key [c] rfl
   |false=>
    rw[hp,cond_false]at key;rw[aG];cases h1:eqI (c:Int) 34 with
    |true=>
     rw[h1,Bool.true_or,cond_true]at key;simp only[ov,hbe];rw[hbig _ (by simp),az];simp only[wS (show i<bX by omega)];exact key [92,c] rfl
    |false=>
     cases h2:eqI (c:Int) 92 with
     |true=>
      rw[h1,h2,Bool.false_or,cond_true]at key;simp only[ov,hbe];rw[hbig _ (by simp),az];simp only[wS (show i<bX by omega)];exact key [92,c] rfl
     |false=>
      rw[h1,h2,Bool.false_or,cond_false]at key;have a1:=afs hc;have a2:=afy hc;unfold hiT at a1;unfold loT at a2;simp only[V2]at a1 a2;rw[a1,bH,a2,bH,hbig _ (by simp),az];exact key [92,120,yQ (c / 16),yQ (c % 16)] rfl
def AW:∀s:LN,By s->cX (s.map tv)=some s
 |[],_=>rfl
 |c::r,h=>by
  have hc:=h c (by simp);have ih:=AW r fun x hx=>h x (by simp[hx])
  show(match cX (r.map tv)with|some s=>some ((c:Int).toNat % 256::s)|none=>none)=_;simp_all
def Zb (k:Nat):yQ k<256:=by
 unfold yQ;rw[lω];rcases lυ k hexL.length with h|h
 ·have:∀x∈hexL,x<256:=by decide
  simp_all
 all_goals simp_all
def Χ {c:Nat}(h:c<256):By (DC c):=by
 unfold DC;have h1:=Zb (c / 16);have h2:=Zb (c % 16);cases w9 (c:Int)<;>cases(eqI (c:Int) 34||eqI (c:Int) 92)<;>simp<;>intro x hx<;>simp at hx<;>omega
def RL:∀{s:LN},By s->By (lm s)
 |[],_=>fun x hx=>by cases hx
 |c::r,h=>fun x hx=>by
  rcases mγ.1 hx with hx|hx
  ·exact Χ (h c (by simp)) x hx
  ·exact RL (fun y hy=>h y (by simp[hy])) x hx
def RM {s:LN}(h:By s):By (gv s):=fun x hx=>by
 rcases mα.1 hx with rfl|hx
 ·decide
 ·rcases mγ.1 hx with hx|hx
  ·exact RL h x hx
  all_goals simp_all
variable {m:Nat}
def IW (s:LN)(hb:By s)(hm:s.length+3<=m)(hl:s.length<1000000):Ω m 59 [pS s] []=some (pS (gv s),[]):=by
 replace hm:=aH hm;obtain⟨m,rfl,hm⟩:=hm;apply Yu m s;refine(MW s hb (by omega) (by unfold bX;omega) _ s m 0 [34] rfl (by omega) (Nat.zero_le _) (by unfold cm;grind)).trans ?_;have:=Ce s;have hbe:Nat.beq ([34]++lm s).length (([34]++lm s).map tv).length=true:=by simp
 have hbg:cO ((([34]++lm s).map tv).length+(List.take 1 (List.drop 0 [Da.int .u8 34])).length) 1=true:=Kq (by unfold cm;grind);simp only[hbe,az,hbg];have e:List.take (([34]++lm s).map tv++List.take 1 (List.drop 0 [Da.int .u8 34])).length (List.drop 0 (([34]++lm s).map tv++[Da.int .u8 34]))=(gv s).map tv:=by
  rw[List.drop_zero,List.drop_zero,mβ (by simp)];unfold gv;simp;try rfl
 rw[e,AW _ (RM hb),bH]
def TV (v:Va)(nd:List No)(j:Nat)(h:j<v.I.length)(o:LN)(hm:6<=m)(hi: -9223372036854775808<v.I[j]/\v.I[j]<=9223372036854775807)(hl:o.length+(av (iA v.I[j])).length<cm):
  Ω m 60 [pI (j:Int),.box 0 0,.box 3 0] [.box [.box 1 0],.box [.box 1 0,.arr 2 0 (Wb o nd).bu 1,pL 8 (Wb o nd).ns],.byt (Wb o nd).ou,v.r.b]=some (.tup [],(Ru.mk (Wb (o++av (iA v.I[j])) nd).bu (Wb (o++av (iA v.I[j])) nd).ns v.r.Kind v.r.N v.r.S v.r.I v.r.L (Wb (o++av (iA v.I[j])) nd).ou).hp):=by
 replace hm:=aH hm;obtain⟨m,rfl,hm⟩:=hm;apply OQ m (PwJ.mk (Wb o nd).bu (Wb o nd).ns (Wb o nd).ou v.r.Kind v.r.N v.r.S v.r.I v.r.L) (j:Int);unfold z1;have hw:(cG.mk (Wb o nd).bu (Wb o nd).ns (Wb o nd).ou)=Wb o nd:=rfl;have e1:=evC_known (zL (m:=m) v.I[j] o nd (by omega) hi hl);simp only[show v.r.I=v.I.map iE from rfl,bg,cS,bI h,bH,dI,e1,aL,ah,cF]
def TW (v:Va)(nd:List No)(j:Nat)(h:j<v.L.length)(o:LN)(hb:By v.L[j])(hs:v.L[j].length<1000000)(hm:v.L[j].length+6<=m)(hl:o.length+(av [gv v.L[j]]).length<cm):
  Ω m 61 [pI (j:Int),.box 0 0,.box 3 0] [.box [.box 1 0],.box [.box 1 0,.arr 2 0 (Wb o nd).bu 1,pL 8 (Wb o nd).ns],.byt (Wb o nd).ou,v.r.b]=some (.tup [],(Ru.mk (Wb (o++av [gv v.L[j]]) nd).bu (Wb (o++av [gv v.L[j]]) nd).ns v.r.Kind v.r.N v.r.S v.r.I v.r.L (Wb (o++av [gv v.L[j]]) nd).ou).hp):=by
 replace hm:=aH hm;obtain⟨m,rfl,hm⟩:=hm;apply OS m (PwJ.mk (Wb o nd).bu (Wb o nd).ns (Wb o nd).ou v.r.Kind v.r.N v.r.S v.r.I v.r.L) (j:Int);unfold z6;have hw:(cG.mk (Wb o nd).bu (Wb o nd).ns (Wb o nd).ou)=Wb o nd:=rfl;have e1:=evC_known (IW (m:=m) v.L[j] hb (by omega) hs);have e2:=evC_known (gw (m:=m) [gv v.L[j]] o nd (by grind) (by show 1<bX;decide) hl);simp at e2;simp only[show v.r.L=v.L.map .str from rfl,bg,cS,bI h,bH,e1,aE,fo,ah,e2,aL,cF]
def kL (v:Va):List LN:=
 bif eqI v.k 1 then iA v.n else bif eqI v.k 2 then[bif eqI v.n 1 then[116,114,117,101]else[102,97,108,115,101]]else bif eqI v.k 3 then[gv v.s]else bif eqI v.k 4 then[105,110,116,115]::bp (v.I.map iA)else bif eqI v.k 5 then[115,116,114,105,110,103,115]::bp (v.L.map fun s=>[gv s])else[]
structure nh (v:Va):Prop where
 n: -9223372036854775808<v.n/\v.n<=9223372036854775807
 b:v.k=2->v.n=0\/v.n=1
 s:By v.s/\v.s.length<=64
 I:v.I.length<=16/\∀i∈v.I,-9223372036854775808<i/\i<=9223372036854775807
 L:v.L.length<=16/\∀t∈v.L,By t/\t.length<=64
def xv (v:Va)(h:nh v)(o:LN)(nd:List No)(hm:100<=m)(hl:o.length+(av (kL v)).length<cm):Ω m 24 [.box 0 0,.p v.e] (Wb o nd).hp=some (.tup [],(Wb (o++av (kL v)) nd).hp):=by
 replace hm:=aH hm;obtain⟨m,rfl,hm⟩:=hm;apply F1 m (Wb o nd) v.r;unfold tT;have rk:v.r.Kind=v.k:=rfl;have rn:v.r.N=v.n:=rfl;have rs:v.r.S=v.s:=rfl;unfold kL at hl ⊢
 rw[rk,rn,rs];cases h1:eqI v.k 1 with
 |true=>
  rw[h1,cond_true]at hl;have e1:=evC_known (zL (m:=m) v.n o nd (by omega) h.n hl);simp only[az,e1,aL,ah,cF,cond_true]
 |false=>
 rw[h1,cond_false]at hl;rw[aG,cond_false];cases h2:eqI v.k 2 with
 |true=>
  rw[h2,cond_true]at hl;rw[bO,lδ]at h2;rcases h.b h2 with hn|hn
  ·rw[hn]at hl ⊢
   have e1:=evC_known (gw (m:=m) [[102,97,108,115,101]] o nd (by grind) (by decide) hl);simp at e1;simp only[show[Da.str [102,97,108,115,101],Da.str [116,114,117,101]][Int.toNat 0]?=some (Da.str [102,97,108,115,101])from rfl,bH,cV,e1,cF]
   rfl
  ·rw[hn]at hl ⊢
   have e1:=evC_known (gw (m:=m) [[116,114,117,101]] o nd (by grind) (by decide) hl);simp at e1;simp only[show[Da.str [102,97,108,115,101],Da.str [116,114,117,101]][Int.toNat 1]?=some (Da.str [116,114,117,101])from rfl,bH,cV,e1,cF]
   rfl
 |false=>
 rw[h2,cond_false]at hl;rw[aG,cond_false];cases h3:eqI v.k 3 with
 |true=>
  rw[h3,cond_true]at hl;have e1:=evC_known (IW (m:=m) v.s h.s.1 (by have:=h.s.2;omega) (by have:=h.s.2;omega));have e2:=evC_known (gw (m:=m) [gv v.s] o nd (by grind) (by show 1<bX;decide) hl);simp at e2;simp only[az,e1,aE,fo,ah,e2,aL,cF,cond_true]
 |false=>
 rw[h3,cond_false]at hl;rw[aG,cond_false];cases h4:eqI v.k 4 with
 |true=>
  rw[h4,cond_true]at hl;have e1:=evC_known (gw (m:=m) [[105,110,116,115]] o nd (by grind) (by decide) (by simp only[av,lα,List.length_cons,List.length_nil]at hl ⊢;omega));simp at e1;have hI:=h.I.1;have e2:=ŕ (m:=m) v nd (v.I.map iA) (o++av [[105,110,116,115]]) (by grind) (by rw[lζ];unfold bX;omega) (by simp only[av,lα,List.length_cons,List.length_nil]at hl ⊢;omega) (fun j hj o' ho=>by
   rw[lζ]at hj;rw[List.getElem_map]at ho ⊢
   exact TV v nd j hj o' (by omega) (h.I.2 _ (lπ hj)) ho)
  rw[lζ]at e2;have e2:=evC_known e2;simp only[az,e1,aL,ah,cF,show v.r.I.length=v.I.length from lζ _];refine(e2 _).trans ?_;simp only[aL,ah,adM];have:o++av [[105,110,116,115]]++av (bp (v.I.map iA))=o++av ([105,110,116,115]::bp (v.I.map iA)):=by simp only[av,lε,List.cons_append,List.nil_append]
  simp_all
 |false=>
 rw[h4,cond_false]at hl;rw[aG,cond_false];cases h5:eqI v.k 5 with
 |true=>
  rw[h5,cond_true]at hl;have e1:=evC_known (gw (m:=m) [[115,116,114,105,110,103,115]] o nd (by grind) (by decide) (by simp only[av,lα,List.length_cons,List.length_nil]at hl ⊢;omega));simp at e1;have hL:=h.L.1;have e2:=Ř (m:=m) v nd (v.L.map fun s=>[gv s]) (o++av [[115,116,114,105,110,103,115]]) (by grind) (by rw[lζ];unfold bX;omega) (by simp only[av,lα,List.length_cons,List.length_nil]at hl ⊢;omega) (fun j hj o' ho=>by
   rw[lζ]at hj;rw[List.getElem_map]at ho ⊢
   obtain⟨a1,a2⟩:=h.L.2 _ (lπ hj);exact TW v nd j hj o' a1 (by omega) (by omega) ho)
  rw[lζ]at e2;have e2:=evC_known e2;simp only[az,e1,aL,ah,cF,cond_true,show v.r.L.length=v.L.length from lζ _];refine(e2 _).trans ?_;simp only[aL,ah,adM];have:o++av [[115,116,114,105,110,103,115]]++av (bp (v.L.map fun s=>[gv s]))=o++av ([115,116,114,105,110,103,115]::bp (v.L.map fun s=>[gv s])):=by simp only[av,lε,List.cons_append,List.nil_append]
  simp_all
 |false=>
  rw[aG,cond_false];simp only[av,lν]
def bD (w:LN):Tk:=(dD w).1
structure WdT (w:LN):Prop where
 by_:By w
 ok:(dD w).2.2=0
 len:(dD w).2.1=(w.length:Int)
 a0:(bD w).a=0
 hd:∃c r,w=c::r/\wu c=false/\¬(c=47/\∃t,r=47::t)
def Tl (t:LN):kV t=10\/kV t=32:=by
 unfold kV;cases bv t [123]||(bv t [125]||bv t [59])
 ·exact .inr rfl
 ·exact .inl rfl
def abS {c0:Nat}(h:c0=10\/c0=32):wu c0=true:=by rcases h with rfl|rfl<;>rfl
def Ĝ {w:LN}(h:WdT w){c0:Nat}(hc:c0=10\/c0=32)(r:LN):n8 false (w++c0::r)=0:=by
 obtain⟨c,s,rfl,hb,hn⟩:=h.hd;show(bif wu c then n8 false (s++c0::r)+1 else bif kA (c::(s++c0::r)) [47,47]then n8 true (s++c0::r)+1 else 0)=0;rw[hb,cond_false];have hp:kA (c::(s++c0::r)) [47,47]=false:=by
  unfold kA;rw[ec,lρ];intro e;cases s with
  |nil=>
   have e:[c,c0]=[47,47]:=e;simp only[mη,and_true]at e;omega
  |cons d s=>
   have e:[c,d]=[47,47]:=e;simp only[mη,and_true]at e;exact hn ⟨e.1,s,by rw[e.2]⟩
 rw[hp,cond_false]
def æ:∀(ws:List LN),(∀w∈ws,WdT w)->∀(q i:Nat) (acc:List Tk),(av ws).length<q->∃T,tkU q (av ws) i acc=(acc++T,0,0)/\T.map st=ws.map bD
 |[],_,q,i,acc,hq=>by
  cases q with
  |zero=>simp at hq
  |succ q=>exact⟨[],by rw[lν];rfl,rfl⟩
 |w::r,hw,q,i,acc,hq=>by
  have h:=hw w (by simp);have hs:=Tl w;obtain⟨c,s,rfl,-,-⟩:=h.hd;cases q with
  |zero=>simp at hq
  |succ q=>
   simp only[av,lα,List.length_cons]at hq;have hk:dD ((c::s)++kV (c::s)::av r)=dD (c::s):=ı hs _ c s h.ok;have hl:(dD (c::s)).2.1.toNat=(c::s).length:=by rw[h.len];exact Int.toNat_natCast _
   obtain⟨T,e1,e2⟩:=æ r (fun x hx=>hw x (by simp[hx])) q (i+((c::s).length+1)) (acc++[{bD (c::s)with a:=(i:Int)}]) (by omega);refine⟨{bD (c::s)with a:=(i:Int)}::T,?_,?_⟩
   ·have hd:((c::s)++kV (c::s)::av r).drop (c::s).length=kV (c::s)::av r:=List.drop_left;have hsk:n8 false (kV (c::s)::av r)=n8 false (av r)+1:=by
     show(bif wu (kV (c::s))then n8 false (av r)+1 else _)=_;rw[abS hs,cond_true]
    have step:Ft (q+1) ((c::s)++kV (c::s)::av r) i acc=tkU q (kV (c::s)::av r) (i+(c::s).length) (acc++[{bD (c::s)with a:=(i:Int)}]):=by
     rw[List.cons_append,į,<-List.cons_append,hk,h.ok,show(!eqI (0:Int) 0)=false from rfl,cond_false,hl,hd];rfl
    show Ft (q+1) (((c::s)++kV (c::s)::av r).drop (n8 false ((c::s)++kV (c::s)::av r))) (i+n8 false ((c::s)++kV (c::s)::av r)) acc=_;rw[Ĝ h hs,List.drop_zero,show i+0=i from rfl,step];have e3:tkU q (kV (c::s)::av r) (i+(c::s).length) (acc++[{bD (c::s)with a:=(i:Int)}])=tkU q (av r) (i+((c::s).length+1)) (acc++[{bD (c::s)with a:=(i:Int)}]):=by
     unfold tkU;rw[hsk,List.drop_succ_cons,show i+(c::s).length+(n8 false (av r)+1)=i+((c::s).length+1)+n8 false (av r) by omega]
    rw[e3,e1,lε];rfl
   ·rw[List.map_cons,List.map_cons,e2];congr 1;have:=h.a0;unfold st;generalize bD (c::s)=t at*
    cases t;simp only at this;subst this;rfl
def wdB (w:LN):Bool:=(w.all fun c=>Nat.blt c 256)&&(eqI (dD w).2.2 0&&(eqI (dD w).2.1 (w.length:Int)&&(eqI (dD w).1.a 0&&match w with|[]=>false|c::r=>!wu c&&!(Nat.beq c 47&&Nat.beq (r.headD 0) 47))))
def aeU {w:LN}(h:wdB w=true):WdT w:=by
 unfold wdB at h;simp only[lγ,bO,lδ,lσ]at h;obtain⟨h1,h2,h3,h4,h5⟩:=h;refine⟨fun c hc=>by have:=h1 c hc;rwa [Nat.blt_eq]at this,h2,h3,h4,?_⟩
 cases w with
 |nil=>cases h5
 |cons c r=>
  simp only[lγ,Bool.not_eq_true',Bool.and_eq_false_iff]at h5;refine⟨c,r,rfl,h5.1,fun⟨e1,t,e2⟩=>?_⟩
  subst e1 e2;rcases h5.2 with h|h<;>cases h
def Fk {p:Nat->Bool}:∀(s:LN),(s.takeWhile p).length=s.length->∀c∈s,p c=true
 |[],_,c,hc=>by cases hc
 |a::s,h,c,hc=>by
  rw[List.takeWhile_cons]at h;cases ha:p a with
  |false=>rw[ha]at h;simp at h
  |true=>
   rw[ha,if_pos rfl,List.length_cons,List.length_cons,Nat.add_right_cancel_iff]at h;rcases mα.1 hc with rfl|hc
   ·exact ha
   ·exact Fk s h c hc
def QZ {c:Nat}(h:zb (c:Int)=true):c<256/\wu c=false/\c≠47:=by
 unfold zb BB dX at h;simp only[mκ,lγ,cn,bO,lδ]at h;have:(48<=c/\c<=57)\/(65<=c/\c<=122):=by omega
 refine⟨by omega,?_,by omega⟩
 unfold wu;simp only[List.any_cons,List.any_nil,Bool.or_false,qβ];refine⟨?_,?_,?_,?_⟩<;>(rw[Bool.eq_false_iff];intro e;have:=lη e;omega)
def jT {w:LN}(h:bw w=true):WdT w/\bD w=⟨1,w,0,0⟩:=by
 unfold bw at h;simp only[lγ,Bool.not_eq_true',ec,cn,bO,lδ,lρ]at h;obtain⟨h1,h2,h3,h4⟩:=h;cases w with
 |nil=>exact absurd rfl h1
 |cons c r=>
  have hw:cD (c::r)=(c::r).length:=by omega
  have hlet:BB (c:Int)=true:=by
   cases hl:BB (c:Int)with
   |true=>rfl
   |false=>
    unfold cD at hw;rw[List.headD_cons,hl]at hw;simp at hw
  have hall:∀x∈c::r,zb (x:Int)=true:=by
   unfold cD at hw;rw[List.headD_cons,hlet,cond_true]at hw;unfold dV at hw;exact Fk (p:=fun c:Nat=>zb (c:Int)) (c::r) hw
  have ht:dD (c::r)=(⟨1,c::r,0,0⟩,((c::r).length:Int),0):=by
   rw[rx,hw,List.take_length,h4,fd (show(0:Int)<((c::r).length:Int) by simp only[List.length_cons];omega),tz (show ¬(32:Int)<((c::r).length:Int) by omega)];rfl
  refine⟨⟨fun x hx=>(QZ (hall x hx)).1,by rw[ht],by rw[ht],by unfold bD;rw[ht],c,r,rfl,(QZ (hall c (by simp))).2.1,fun e=>(QZ (hall c (by simp))).2.2 e.1⟩,by unfold bD;rw[ht]⟩
open Go.Lib in
def ę (u:Nat)(r:List UInt8)(h:u<9223372036854775808):parseUintM (2 ^ 64 - 1) 0 (decDigits u++r)=parseUintM (2 ^ 64 - 1) u r:=by
 rw[decDigits];split
 ·rename_i h10;have hc:(UInt8.ofNat (48+u)).toNat=48+u:=by rw[UInt8.toNat_ofNat'];omega
  rw[List.cons_append,List.nil_append,parseUintM,hc,if_pos (by omega),if_neg (by omega),if_neg (by omega)];congr 1;omega
 ·rename_i h10;have hc:(UInt8.ofNat (48+u % 10)).toNat=48+u % 10:=by rw[UInt8.toNat_ofNat'];omega
  rw[lε,ę (u / 10) _ (by omega),List.cons_append,List.nil_append,parseUintM,hc,if_pos (by omega),if_neg (by omega),if_neg (by omega)];congr 1;omega
termination_by u
decreasing_by omega
def lO (u:Nat):LN:=(Lib.decDigits u).map UInt8.toNat
def A7 (u:Nat):lO u=if u<10 then[48+u]else lO (u / 10)++[48+u % 10]:=by
 unfold lO;rw[Lib.decDigits];split
 ·rename_i h;have hc:(UInt8.ofNat (48+u)).toNat=48+u:=by rw[UInt8.toNat_ofNat'];omega
  rw[List.map_cons,List.map_nil,hc]
 ·have hc:(UInt8.ofNat (48+u % 10)).toNat=48+u % 10:=by rw[UInt8.toNat_ofNat'];omega
  rw[List.map_append,List.map_cons,List.map_nil,hc]
def A6 (u:Nat):∀c∈lO u,48<=c/\c<=57:=by
 rw[A7];split
 ·intro c hc;rw[List.mem_singleton]at hc;omega
 ·intro c hc;rcases mγ.1 hc with hc|hc
  ·exact A6 (u / 10) c hc
  ·rw[List.mem_singleton]at hc;omega
termination_by u
decreasing_by omega
def Gt (u:Nat):∃c r,lO u=c::r/\(1<=u->c≠48)/\(r≠[]->10<=u):=by
 rw[A7];split
 ·exact⟨_,_,rfl,fun h=>by omega,fun h=>absurd rfl h⟩
 ·obtain⟨c,r,e,h1,h2⟩:=Gt (u / 10);exact⟨c,r++[48+u % 10],by rw[e];rfl,fun _=>h1 (by omega),fun _=>by omega⟩
termination_by u
decreasing_by omega
def Lx (u:Nat):ew (u:Int)=lO u:=by
 unfold ew Lib.itoa lO;rw[if_neg (by omega),Int.toNat_natCast]
def R6 {c:Nat}(h:48<=c/\c<=57):dX (c:Int)=true:=by
 unfold dX;rw[ji (by omega),ji (by omega)];rfl
def NE {p:Nat->Bool}:∀(s:LN),(∀c∈s,p c=true)->s.takeWhile p=s
 |[],_=>rfl
 |c::s,h=>by rw[List.takeWhile_cons,h c (by simp),if_pos rfl,NE s fun x hx=>h x (by simp[hx])]
def Ą {u:Nat}(h:u<9223372036854775808):Mi (lO u)=some (u:Int):=by
 have hu:DT (lO u)=Lib.decDigits u:=by
  unfold DT lO;rw[List.map_map];have:(Nat.toUInt8∘UInt8.toNat)=id:=by
   funext x
   exact UInt8.ofNat_toNat
  rw[this,List.map_id]
 have hp:=ę u [] h;rw[lν]at hp;obtain⟨c,r,e,-,-⟩:=Gt u;have hd:=A6 u;unfold Mi;rw[hu];unfold lO at e hd;cases hl:Lib.decDigits u with
 |nil=>rw[hl]at e;cases e
 |cons a l=>
  have ha:=hd a.toNat (by rw[hl];simp);rw[hl]at hp;have hpu:Lib.parseUintB 64 (a::l)= .ok u:=by
   unfold Lib.parseUintB;rw[if_neg (by simp),hp];rfl
  unfold Lib.parseIntB;simp only;rw[if_neg (show ¬(a.toNat=43\/a.toNat=45) by omega),hpu];simp only;rw[if_neg (by omega),if_neg (by omega),if_neg (by omega)]
def CP {n:Int}(h0:0<=n)(h1:n<=9223372036854775807):WdT (ew n)/\bD (ew n)=⟨3,ew n,n,0⟩:=by
 obtain⟨u,rfl⟩:∃u:Nat,n=(u:Int):=⟨n.toNat,by omega⟩
 rw[Lx];obtain⟨c,r,e,hz,hl⟩:=Gt u;have hd:=A6 u;have hc:=hd c (by rw[e];simp);have hrun:dV dX (lO u)=(lO u).length:=by
  unfold dV;rw[NE (p:=fun c:Nat=>dX (c:Int)) _ fun x hx=>R6 (hd x hx)]
 have hnl:BB (c:Int)=false:=by
  unfold BB;rw[leF (show ¬(97:Int)<=c by omega),leF (show ¬(65:Int)<=c by omega),Ps (show ¬(c:Int)=95 by omega)];rfl
 have hw:cD (lO u)=0:=by
  unfold cD;rw[e,List.headD_cons,hnl];rfl
 have ht:dD (lO u)=(⟨3,lO u,(u:Int),0⟩,((lO u).length:Int),0):=by
  have hn:BU (lO u)=(⟨3,lO u,(u:Int),0⟩,((lO u).length:Int),0):=by
   unfold BU;rw[hrun,List.take_length,Ą (by omega)];simp only;have hb:(aO 1 ((lO u).length:Int)&&Nat.beq ((lO u).headD 0) 48)=false:=by
    rw[e,List.headD_cons];cases r with
    |nil=>rfl
    |cons d r=>
     have:c≠48:=hz (by have:=hl (by simp);omega);rw[show Nat.beq c 48=false by rw[Bool.eq_false_iff];intro e;exact this (lη e),Bool.and_false]
   rw[hb];rfl
  rw[e]at hn hw ⊢
  rw[rx,hw,show aO 0 ((0:Nat):Int)=false from rfl,cond_false,R6 hc,cond_true,hn]
 refine⟨⟨fun x hx=>by have:=hd x hx;omega,by rw[ht],by rw[ht],by unfold bD;rw[ht],c,r,e,?_,fun e=>by omega⟩,by unfold bD;rw[ht]⟩
 unfold wu;simp only[List.any_cons,List.any_nil,Bool.or_false,qβ];refine⟨?_,?_,?_,?_⟩<;>(rw[Bool.eq_false_iff];intro e;have:=lη e;omega)
def SU {k:Nat}(h:k<16):f6 (yQ k)=(k:Int):=by
 have e:((List.range 16).all fun k=>eqI (f6 (yQ k)) (k:Int))=true:=by kernel_rfl
 have:=lσ.1 e k (List.mem_range.2 h);rwa [bO,lδ]at this
def ĸ (d:Nat)(r1 out:LN)(i:Nat)(h:(Nat.beq d 34||Nat.beq d 92)=true):txtS (92::d::r1) out i=txtS r1 (out++[d]) (i+2):=by
 rw[txtS.eq_def];simp only[show w9 ((92:Nat):Int)=false from rfl,cond_false,show Nat.beq 92 34=false from rfl,show Nat.beq 92 92=true from rfl,cond_true,h]
def Ĺ (a b:Nat)(r2 out:LN)(i:Nat)(h:(aS 0 (f6 a)&&aS 0 (f6 b))=true):txtS (92::120::a::b::r2) out i=txtS r2 (out++[(16*f6 a+f6 b).toNat]) (i+4):=by
 rw[txtS.eq_def];simp only[show w9 ((92:Nat):Int)=false from rfl,cond_false,show Nat.beq 92 34=false from rfl,show Nat.beq 92 92=true from rfl,cond_true,show(Nat.beq 120 34||Nat.beq 120 92)=false from rfl,show Nat.beq 120 120=true from rfl,Bool.true_and,h]
def TI:∀(s:LN) (r out:LN) (i:Nat),By s->txtS (lm s++r) out i=txtS r (out++s) (i+(lm s).length)
 |[],r,out,i,_=>by simp only[lm,List.nil_append,lν,List.length_nil,Nat.add_zero]
 |c::s,r,out,i,h=>by
  have hc:=h c (by simp);have ih:=fun out i=>TI s r out i fun x hx=>h x (by simp[hx])
  simp only[lm,DC];cases hp:w9 (c:Int)with
  |true=>
   simp only[cond_true,List.cons_append,List.nil_append];rw[txtS.eq_def];simp only[hp,cond_true];rw[ih];simp only[lε,List.cons_append,List.nil_append,List.length_cons];congr 1;omega
  |false=>
   have h34:(eqI (c:Int) 34||eqI (c:Int) 92)=(Nat.beq c 34||Nat.beq c 92):=rfl;rw[cond_false,h34];cases hq:(Nat.beq c 34||Nat.beq c 92)with
   |true=>
    simp only[cond_true,List.cons_append,List.nil_append];rw[ĸ _ _ _ _ hq,ih];simp only[lε,List.cons_append,List.nil_append,List.length_cons];congr 1;omega
   |false=>
    simp only[cond_false,List.cons_append,List.nil_append];have n1:=SU (show c / 16<16 by omega);have n2:=SU (show c % 16<16 by omega);rw[Ĺ _ _ _ _ _ (by rw[n1,n2,ji (by omega),ji (by omega)];rfl),n1,n2,ih,show(16*((c / 16:Nat):Int)+((c % 16:Nat):Int)).toNat=c by omega];simp only[lε,List.cons_append,List.nil_append,List.length_cons];congr 1;omega
def IA {s:LN}(hb:By s)(hl:s.length<=64):WdT (gv s)/\bD (gv s)=⟨4,s,0,0⟩:=by
 have ht:dD (gv s)=(⟨4,s,0,0⟩,((gv s).length:Int),0):=by
  have hx:txtS (lm s++[34]) [] 1=(⟨4,s,0,0⟩,((gv s).length:Int),0):=by
   rw[TI s [34] [] 1 hb,List.nil_append,txtS,show w9 ((34:Nat):Int)=false from rfl,cond_false,show Nat.beq 34 34=true from rfl,cond_true,tz (by omega),cond_false];unfold gv;simp only[List.length_cons,lα,List.length_nil];congr 2;omega
  unfold gv at hx ⊢
  rw[rx,show cD (34::(lm s++[34]))=0 from rfl,show aO 0 ((0:Nat):Int)=false from rfl,cond_false,show dX ((34:Nat):Int)=false from rfl,cond_false,show Nat.beq 34 34=true from rfl,cond_true,hx]
 refine⟨⟨RM hb,by rw[ht],by rw[ht],by unfold bD;rw[ht],34,_,rfl,rfl,fun e=>by omega⟩,by unfold bD;rw[ht]⟩
section
def VH (o:Option Nat):Int:=match o with|some j=>j|none=> -1
def lq {n:Nat}(s:LN):Ω (n+1506) 16 [pS s] []=some (pB (bw s),[]):=DL s (by omega)
def eI (k:Int):Bool:=aS 1 k&&aS k 5
def qV {n:Nat}(k:Int):Ω (n+1) 49 [pI k] []=some (pB (eI k),[]):=by
 apply UA n k;simp only[DV,dB,AX,eI,Bool.and_true]
def Xi {n:Nat}(xs ys:LI)(h:xs.length<1501\/ys.length<1501):Ω (n+1503) 93 [pL 1 (xs.map iE),pL 1 (ys.map iE)] []=some (pB (decide (xs=ys)),[]):=by
 apply J3 (n+1502) (xs.map iE) (ys.map iE);unfold Ai;simp only[lζ,bO,zw];by_cases hl:(xs.length:Int)=ys.length
 ·rw[if_pos hl];have hl':xs.length=ys.length:=by omega
  refine(cd (xs.zip ys) (fun q i=>itL (fT _ (n+1502) _ _) q (xs.map iE,ys.map iE,(xs.length:Int),i)) (fun p=>!decide (p.1=p.2)) (fun i=>some (pB false,[])) (some (pB true,[])) (fun q i hi=>?_) (fun q=>?_) (by grind)).trans ?_
  ·have hx:i<xs.length:=by simp_all
   have hy:i<ys.length:=by omega
   rw[aM];simp only[fT,fd (show((i:Int)<(xs.length:Int)) by omega),az,bg,bI hx,bI hy,wS (show i<bX by unfold bX;omega),List.getElem_zip,bO];exact qF _ _ _
  ·rw[aM];simp only[fT,show((xs.zip ys).length:Int)=xs.length by grind,dJ,aG]
  ·have:decide (xs=ys)=((xs.zip ys).all fun p=>!(!decide (p.1=p.2))):=by
    rw[mε,lσ,lδ];constructor
    ·rintro rfl p hp
     obtain⟨i,hi,rfl⟩:=qμ hp;simp
    ·intro ha;refine List.ext_getElem hl' fun i h1 h2=>?_
     have:=ha (xs[i],ys[i]) (by rw[<-List.getElem_zip (h:=by grind)];grind);simp_all
   grind
 ·rw[if_neg hl];rw[mρ (by grind)]
def Xj {n:Nat}(xs ys:List LN)(h:xs.length<1501\/ys.length<1501):Ω (n+1503) 94 [pL 1 (xs.map .str),pL 1 (ys.map .str)] []=some (pB (decide (xs=ys)),[]):=by
 apply J4 (n+1502) (xs.map .str) (ys.map .str);unfold Aj;simp only[lζ,bO,zw];by_cases hl:(xs.length:Int)=ys.length
 ·rw[if_pos hl];have hl':xs.length=ys.length:=by omega
  refine(cd (xs.zip ys) (fun q i=>itL (fU _ (n+1502) _ _) q (xs.map .str,ys.map .str,(xs.length:Int),i)) (fun p=>!decide (p.1=p.2)) (fun i=>some (pB false,[])) (some (pB true,[])) (fun q i hi=>?_) (fun q=>?_) (by grind)).trans ?_
  ·have hx:i<xs.length:=by simp_all
   have hy:i<ys.length:=by omega
   rw[aM];simp only[fU,fd (show((i:Int)<(xs.length:Int)) by omega),az,bg,bI hx,bI hy,wS (show i<bX by unfold bX;omega),List.getElem_zip,ec];exact qF _ _ _
  ·rw[aM];simp only[fU,show((xs.zip ys).length:Int)=xs.length by grind,dJ,aG]
  ·have:decide (xs=ys)=((xs.zip ys).all fun p=>!(!decide (p.1=p.2))):=by
    rw[mε,lσ,lδ];constructor
    ·rintro rfl p hp
     obtain⟨i,hi,rfl⟩:=qμ hp;simp
    ·intro ha;refine List.ext_getElem hl' fun i h1 h2=>?_
     have:=ha (xs[i],ys[i]) (by rw[<-List.getElem_zip (h:=by grind)];grind);simp_all
   grind
 ·rw[if_neg hl];rw[mρ (by grind)]
def fG {α:Type}(l:List α):Int:=(l.length:Int)
def Ei (v:Va):Bool:=aO v.k 0||aO 5 v.k
def Ej (v:Va):Bool:=!eqI v.n 0&&(!eqI v.k 1&&(!eqI v.k 2||!eqI v.n 1))
def RI (v:Va):Bool:=(!bv v.s []&&!eqI v.k 3)||((aO 0 (fG v.I)&&!eqI v.k 4)||(aO 0 (fG v.L)&&!eqI v.k 5))
def xI (v:Va):Bool:=aO 64 (fG v.s)||(aO 16 (fG v.I)||aO 16 (fG v.L))
def kE (v:Va):Bool:=!Ei v&&(!Ej v&&(!RI v&&(!xI v&&v.L.all fun t=>!aO 64 (fG t))))
def Va.c (v:Va):LD:=[.int .i64 v.k,.int .i64 v.n,.str v.s,.slice 1 (v.I.map iE),.slice 1 (v.L.map .str)]
def dC (a b:Va):Bool:=eqI a.k b.k&&(eqI a.n b.n&&(bv a.s b.s&&(decide (a.I=b.I)&&decide (a.L=b.L))))
def ś {n:Nat}(a b:Va)(hi:a.I.length<1501\/b.I.length<1501)(hl:a.L.length<1501\/b.L.length<1501):Ω (n+1504) 64 [.p (.agg a.c),.p (.agg b.c)] []=some (pB (dC a b),[]):=by
 apply JV (n+1503) a.r b.r;show iL (eqI a.k b.k) _ _=_;have h1:=evC_known (Xi (n:=n) a.I b.I hi);have h2:=evC_known (Xj (n:=n) a.L b.L hl);simp only[Va.r,h1,h2,aE,aj,ah,dB,AX,dC,Bool.and_true]
def FE {n:Nat}(a b:Va)(hi:a.I.length<1501\/b.I.length<1501)(hl:a.L.length<1501\/b.L.length<1501):Ω (n+1505) 30 [.p (.agg a.c),.p (.agg b.c)] []=some (pB (dC a b),[]):=by
 apply Rx (n+1504) a.r b.r;have h:=evC_known (ś (n:=n) a b hi hl);simp only[Va.c]at h;show cE lay0.tab (n+1504) 64 [.p (.agg _),.p (.agg _)] [] _=_;simp only[Va.r]at h ⊢
 simp only[h,aE,aj,ah,uj]
section
variable (cc:ab) (n:Nat) (k0:Bool×aB->R) (v:Va)
def vw1:ow cc n k0 v.r=k0 (Ei v,v.r):=by
 unfold ow Ei;show iL (aO v.k 0) _ (iL (aO 5 v.k) _ _)=_;cases aO v.k 0<;>cases aO 5 v.k<;>rfl
def vw2:ox cc n k0 v.r=k0 (Ej v,v.r):=by
 unfold ox Ej;show iL (!eqI v.n 0) (iL (!eqI v.k 1) (iL (!eqI v.k 2) _ (iL (!eqI v.n 1) _ _)) _) _=_;cases eqI v.n 0<;>cases eqI v.k 1<;>cases eqI v.k 2<;>cases eqI v.n 1<;>rfl
def vw3:oy cc n k0 v.r=k0 (!bv v.s []&&!eqI v.k 3,v.r):=by
 show iL (!bv v.s []) (iL (!eqI v.k 3) _ _) _=_;cases bv v.s []<;>cases eqI v.k 3<;>rfl
def vw4:jp cc n k0 v.r=k0 (xI v,v.r):=by
 unfold jp xI fG;show iL (aO 64 (v.s.length:Int)) _ (iL (aO 16 ((v.I.map iE).length:Int)) _ (iL (aO 16 ((v.L.map Da.str).length:Int)) _ _))=_;simp;cases aO 64 (v.s.length:Int)<;>cases aO 16 (v.I.length:Int)<;>cases aO 16 (v.L.length:Int)<;>rfl
def vw6:oz cc n k0 v.r=k0 (aO 0 (fG v.I)&&!eqI v.k 4,v.r):=by
 unfold oz fG;show iL (aO 0 ((v.I.map iE).length:Int)) (iL (!eqI v.k 4) _ _) _=_;simp;cases aO 0 (v.I.length:Int)<;>cases eqI v.k 4<;>rfl
def vw7:oA cc n k0 v.r=k0 (aO 0 (fG v.L)&&!eqI v.k 5,v.r):=by
 unfold oA fG;show iL (aO 0 ((v.L.map Da.str).length:Int)) (iL (!eqI v.k 5) _ _) _=_;simp;cases aO 0 (v.L.length:Int)<;>cases eqI v.k 5<;>rfl
end
def IQ {n:Nat}(v:Va):Ω (n+1503) 50 [.p (.agg v.c)] []=some (pB (kE v),[]):=by
 apply X3 (n+1502) v.r;by_cases h:v.L.length<1501;case neg=>
  have h4:xI v=true:=by
   unfold xI fG;rw[mκ,mκ];exact .inr (.inr (fd (by omega)))
  unfold zQ kE RI;simp only[vw1,vw2,vw3,vw4,vw6,vw7,h4];cases Ei v<;>cases Ej v<;>cases(!bv v.s []&&!eqI v.k 3)<;>cases(aO 0 (fG v.I)&&!eqI v.k 4)<;>cases(aO 0 (fG v.L)&&!eqI v.k 5)<;>rfl
 have hl:itL (dw (cE lay0.tab (n+1502)) (n+1502) (some (pB false,[])) (fun(l18,i19,i20)=>some (pB true,[]))) (n+1502) (v.L.map .str,(v.L.length:Int),0)=some (pB (v.L.all fun t=>!aO 64 (fG t)),[]):=by
  refine(cd v.L (fun q i=>itL (dw _ (n+1502) _ _) q (v.L.map .str,(v.L.length:Int),i)) (fun t=>aO 64 (fG t)) (fun i=>some (pB false,[])) (some (pB true,[])) (fun q i hi=>?_) (fun q=>?_) (by omega)).trans ?_
  ·rw[aM];simp only[dw,fd (show((i:Int)<(v.L.length:Int)) by omega),az,bg,bI hi,wS (show i<bX by unfold bX;omega)];exact qF _ _ _
  ·rw[aM];simp only[dw,dJ,aG]
  all_goals grind
 unfold zQ kE RI;simp only[vw1,vw2,vw3,vw4,vw6,vw7];show iL _ _ (iL _ _ (iL _ (iL _ _ (iL _ _ (itL (dw _ _ _ _) _ (v.L.map .str,((v.L.map Da.str).length:Int),0)))) (iL _ (iL _ _ (iL _ _ (itL (dw _ _ _ _) _ (v.L.map .str,((v.L.map Da.str).length:Int),0)))) (iL _ _ (iL _ _ (itL (dw _ _ _ _) _ (v.L.map .str,((v.L.map Da.str).length:Int),0)))))))=_;rw[lζ,hl];cases Ei v<;>cases Ej v<;>cases(!bv v.s []&&!eqI v.k 3)<;>cases(aO 0 (fG v.I)&&!eqI v.k 4)<;>cases(aO 0 (fG v.L)&&!eqI v.k 5)<;>cases xI v<;>rfl
def W8 {n:Nat}(xs:LI)(y:Int)(h:xs.length<1501):Ω (n+1504) 51 [pL 1 (xs.map iE),pI y] []=some (pB (xs.any fun x=>eqI y x),[]):=by
 have hi:Ω (n+1503) 80 [pL 1 (xs.map iE),pI y] []=some (pI (VH (xs.findIdx? fun x=>eqI y x)),[]):=by
  apply ũ (n+1502) (xs.map iE) y;unfold Q9;rw[lζ];refine(cd xs (fun q i=>itL (nk _ (n+1502) _ _) q (xs.map iE,y,(xs.length:Int),i)) (fun x=>eqI y x) (fun i=>some (pI i,[])) (some (pI (-1),[])) (fun q i hi=>?_) (fun q=>?_) (by omega)).trans ?_
  ·rw[aM];simp only[nk,fd (show((i:Int)<(xs.length:Int)) by omega),az,bg,cS,bI hi,bH,dI,wS (show i<bX by unfold bX;omega)];exact qF _ _ _
  ·rw[aM];simp only[nk,dJ,aG]
  ·cases xs.findIdx? fun x=>eqI y x<;>rfl
 apply XY (n+1503) (xs.map iE) y;unfold I0;simp only[evC_known hi,aE,aW,ah];rw[<-List.findIdx?_isSome];cases xs.findIdx? fun x=>eqI y x with
 |none=>rfl
 |some j=>simp[VH,cn,az]
def W9 {n:Nat}(xs:List LN)(y:LN)(h:xs.length<1501):Ω (n+1504) 88 [pL 1 (xs.map .str),pS y] []=some (pB (xs.any fun x=>bv y x),[]):=by
 have hi:Ω (n+1503) 108 [pL 1 (xs.map .str),pS y] []=some (pI (VH (xs.findIdx? fun x=>bv y x)),[]):=by
  apply Ū (n+1502) (xs.map .str) y;unfold Ra;rw[lζ];refine(cd xs (fun q i=>itL (np _ (n+1502) _ _) q (xs.map .str,y,(xs.length:Int),i)) (fun x=>bv y x) (fun i=>some (pI i,[])) (some (pI (-1),[])) (fun q i hi=>?_) (fun q=>?_) (by omega)).trans ?_
  ·rw[aM];simp only[np,fd (show((i:Int)<(xs.length:Int)) by omega),az,bg,cS,bI hi,bH,cV,wS (show i<bX by unfold bX;omega)];exact qF _ _ _
  ·rw[aM];simp only[np,dJ,aG]
  ·cases xs.findIdx? fun x=>bv y x<;>rfl
 apply XZ (n+1503) (xs.map .str) y;unfold I1;simp only[evC_known hi,aE,aW,ah];rw[<-List.findIdx?_isSome];cases xs.findIdx? fun x=>bv y x with
 |none=>rfl
 |some j=>simp[VH,cn,az]
end
mutual
inductive Sub (ns:List No):Nat->Nat->Prop
 |mk {lo i:Nat} {x:No}:ns[i]?=some x->Ch ns lo x.kids i->Sub ns lo i
inductive Ch (ns:List No):Nat->LI->Nat->Prop
 |nil {lo:Nat}:Ch ns lo [] lo
 |cons {lo k hi:Nat} {r:LI}:Sub ns lo k->Ch ns (k+1) r hi->Ch ns lo ((k:Int)::r) hi
end
mutual
def Sub.le {ns:List No}{lo i:Nat}:Sub ns lo i->lo<=i
 | .mk _ h=>h.le
def Ch.le {ns:List No}{lo hi:Nat}{l:LI}:Ch ns lo l hi->lo<=hi
 | .nil=>Nat.le_refl _
 | .cons h g=>by have:=h.le;have:=g.le;omega
end
variable {ns:List No}
def Sub.lt {lo i:Nat}(h:Sub ns lo i):i<ns.length:=by
 cases h with
 |mk hx _=>
  rcases lυ i ns.length with h1|h1
  ·exact h1
  ·rw[lξ h1]at hx;cases hx
def KB {ns:List No}:∀(a b:LI) {lo hi:Nat},Ch ns lo (a++b) hi->∃mid,Ch ns lo a mid/\Ch ns mid b hi
 |[],b,lo,hi,h=>⟨lo,.nil,h⟩
 |x::a,b,lo,hi,h=>by
  cases h with
  |cons h1 h2=>
   obtain⟨mid,h3,h4⟩:=KB a b h2;exact⟨mid,.cons h1 h3,h4⟩
def RQ {ns:List No}:∀(a b:LI) {lo mid hi:Nat},Ch ns lo a mid->Ch ns mid b hi->Ch ns lo (a++b) hi
 |[],b,lo,mid,hi,h,g=>by cases h;exact g
 |x::a,b,lo,mid,hi,h,g=>by
  cases h with
  |cons h1 h2=>exact .cons h1 (RQ a b h2 g)
def gM:List No->Nat->LI->Bool
 |[],_,roots=>decide (roots.length=1)
 |x::r,i,roots=>if roots.length<x.kids.length then false else if roots.drop (roots.length - x.kids.length)=x.kids then gM r (i+1) (roots.take (roots.length - x.kids.length)++[(i:Int)])else false
def xb {ns:List No}:∀(r:List No) (i:Nat) (roots:LI),ns.drop i=r->i<=ns.length->Ch ns 0 roots i->gM r i roots=true->∃k:Nat,Sub ns 0 k/\k+1=ns.length
 |[],i,roots,hr,hi,hc,h=>by
  simp only[gM,lδ]at h;have hl:i=ns.length:=by
   have:=congrArg List.length hr;simp at this;omega
  match roots,h,hc with
  |[k],_,hc=>
   cases hc with
   |cons h1 h2=>cases h2;exact⟨_,h1,hl⟩
 |x::r,i,roots,hr,hi,hc,h=>by
  simp only[gM]at h;split at h
  ·cases h
  ·split at h
   ·rename_i hlen hdrop;have hlt:i<ns.length:=by
     rcases lυ i ns.length with h1|h1
     ·exact h1
     ·rw[mτ h1]at hr;cases hr
    have hx:ns[i]?=some x:=by
     rw[lι hlt]at hr;rw[lθ hlt];simp only[mη]at hr;rw[hr.1]
    have hr':ns.drop (i+1)=r:=by
     rw[lι hlt]at hr;simp only[mη]at hr;exact hr.2
    rw[<-List.take_append_drop (roots.length - x.kids.length) roots,hdrop]at hc;obtain⟨mid,h1,h2⟩:=KB _ _ hc;exact xb r (i+1) _ hr' hlt (RQ _ _ h1 (.cons (.mk hx h2) .nil)) h
   ·cases h
def nr2 (x:No):x.r.Name=x.name:=rfl
def nr3 (x:No):x.r.Value_Kind=x.v.k:=rfl
def nr4 (x:No):x.r.Value_N=x.v.n:=rfl
def nr5 (x:No):x.r.Value_S=x.v.s:=rfl
def nr6 (x:No):x.r.Value_I=x.v.I.map iE:=rfl
def nr7 (x:No):x.r.Value_L=x.v.L.map .str:=rfl
variable {α:Type}
def ſ (l:List α)(p:α->Bool):l.all p=(l.findIdx? fun x=>!p x).isNone:=by
 simp
def bo (o:Int):Bool:=aS 1 o&&aS o 6
def mw (o:Int):Bool:=aS 8 o&&aS o 17
def pN (o:Int):Bool:=eqI o 7
def m8 (o:Int):Bool:=bo o||pN o
def lb (o:Int):Bool:=eqI o 18
def oU (ns:List No)(k:Int):Int:=((Gd ns k).map fun y=>y.op).getD 0
def gW (x:No)(a b:Int):Bool:=aS a (x.kids.length:Int)&&aS (x.kids.length:Int) b
def kJ (ns:List No)(x:No)(j:Nat)(f:Int->Bool):Bool:=(x.kids.drop j).all fun k=>f (oU ns k)
def mW {n:Nat}(k:Int):Ω (n+1) 83 [pI k] []=some (pB (bo k),[]):=by
 apply De n k;simp only[rL,dB,AX,bo,Bool.and_true]
def FF {n:Nat}(k:Int):Ω (n+1) 87 [pI k] []=some (pB (mw k),[]):=by
 apply FU n k;simp only[tJ,dB,AX,mw,Bool.and_true]
def Xd {n:Nat}(k:Int):Ω (n+1) 85 [pI k] []=some (pB (pN k),[]):=by
 rfl
def Xe {n:Nat}(k:Int):Ω (n+1) 86 [pI k] []=some (pB (lb k),[]):=by
 rfl
def Xc {n:Nat}(k:Int):Ω (n+2) 84 [pI k] []=some (pB (m8 k),[]):=by
 apply X2 (n+1) k;simp only[I4,evC_known (mW (n:=n) k),aE,aj,ah,dB,abV,Bool.or_false,m8,pN]
def Xb {n:Nat}(x:No)(a b:Int):Ω (n+1) 81 [pI a,pI b,.box 0 0] [x.r.b]=some (pB (gW x a b),[x.r.b]):=by
 apply X1 n x.r a b;simp only[I3,Ő,lζ,gW];cases aS a (x.kids.length:Int)<;>cases aS (x.kids.length:Int) b<;>rfl
def T3 {n:Nat}(ns:List No)(x:No)(j:Nat)(hj:j<=x.kids.length)(hk:∀k∈x.kids,∃y,Gd ns k=some y)(h:x.kids.length<1501):Ω (n+1504) 82 [pI j,.p (.fn 83 []),.box 0 0,.box 1 0] [x.r.b,.box [pL 8 (ns.map No.e)]]=some (pB (kJ ns x j bo),[x.r.b,.box [pL 8 (ns.map No.e)]]):=by
 apply Uy (n+1503) x.r (ns.map No.e) j;unfold af3 kJ;have hd:List.take ((x.kids.map iE).length - Int.toNat (j:Int)) (List.drop (Int.toNat (j:Int)) (x.kids.map iE))=(x.kids.drop j).map iE:=by
  rw[Int.toNat_natCast,mβ (by simp),List.map_drop]
 simp only[Ő,hd,cn,show(0:Int)<=(j:Int) by omega,show(j:Int)<=((x.kids.map iE).length:Int) by simp_all,decide_true,az];have hkd:∀k∈x.kids.drop j,∃y,Gd ns k=some y:=fun k hm=>hk k (mι hm)
 have hld:(x.kids.drop j).length<1501:=by grind
 generalize x.kids.drop j=ks at hkd hld ⊢
 rw[lζ];refine(cd ks (fun q i=>itL (kf _ (n+1503) _ _) q (ks.map iE,(ks.length:Int),i,x.r,ns.map No.e)) (fun k=>!bo (oU ns k)) (fun i=>some (pB false,[x.r.b,.box [pL 8 (ns.map No.e)]])) (some (pB true,[x.r.b,.box [pL 8 (ns.map No.e)]])) (fun q i hi=>?_) (fun q=>?_) (by omega)).trans ?_
 ·rw[aM];obtain⟨y,hy⟩:=hkd ks[i] (lπ _);simp only[kf,fd (show((i:Int)<(ks.length:Int)) by omega),bg,bI hi,bH,dI,hy,Vb,V0,wS (show i<bX by unfold bX;omega),evC_known (mW (n:=n+1502) y.op),oU,Option.map_some,Option.getD_some];cases bo y.op<;>rfl
 ·rw[aM];simp only[kf,dJ,aG]
 all_goals grind
def T4 {n:Nat}(ns:List No)(x:No)(j:Nat)(hj:j<=x.kids.length)(hk:∀k∈x.kids,∃y,Gd ns k=some y)(h:x.kids.length<1501):Ω (n+1504) 82 [pI j,.p (.fn 87 []),.box 0 0,.box 1 0] [x.r.b,.box [pL 8 (ns.map No.e)]]=some (pB (kJ ns x j mw),[x.r.b,.box [pL 8 (ns.map No.e)]]):=by
 apply Uz (n+1503) x.r (ns.map No.e) j;unfold DU kJ;have hd:List.take ((x.kids.map iE).length - Int.toNat (j:Int)) (List.drop (Int.toNat (j:Int)) (x.kids.map iE))=(x.kids.drop j).map iE:=by
  rw[Int.toNat_natCast,mβ (by simp),List.map_drop]
 simp only[Ő,hd,cn,show(0:Int)<=(j:Int) by omega,show(j:Int)<=((x.kids.map iE).length:Int) by simp_all,decide_true,az];have hkd:∀k∈x.kids.drop j,∃y,Gd ns k=some y:=fun k hm=>hk k (mι hm)
 have hld:(x.kids.drop j).length<1501:=by grind
 generalize x.kids.drop j=ks at hkd hld ⊢
 rw[lζ];refine(cd ks (fun q i=>itL (kg _ (n+1503) _ _) q (ks.map iE,(ks.length:Int),i,x.r,ns.map No.e)) (fun k=>!mw (oU ns k)) (fun i=>some (pB false,[x.r.b,.box [pL 8 (ns.map No.e)]])) (some (pB true,[x.r.b,.box [pL 8 (ns.map No.e)]])) (fun q i hi=>?_) (fun q=>?_) (by omega)).trans ?_
 ·rw[aM];obtain⟨y,hy⟩:=hkd ks[i] (lπ _);simp only[kg,fd (show((i:Int)<(ks.length:Int)) by omega),bg,bI hi,bH,dI,hy,Vb,V0,wS (show i<bX by unfold bX;omega),evC_known (FF (n:=n+1502) y.op),oU,Option.map_some,Option.getD_some];cases mw y.op<;>rfl
 ·rw[aM];simp only[kg,dJ,aG]
 all_goals grind
def T0 {n:Nat}(ns:List No)(x:No)(j:Nat)(hj:j<=x.kids.length)(hk:∀k∈x.kids,∃y,Gd ns k=some y)(h:x.kids.length<1501):Ω (n+1504) 82 [pI j,.p (.fn 84 []),.box 0 0,.box 1 0] [x.r.b,.box [pL 8 (ns.map No.e)]]=some (pB (kJ ns x j m8),[x.r.b,.box [pL 8 (ns.map No.e)]]):=by
 apply Uv (n+1503) x.r (ns.map No.e) j;unfold DQ kJ;have hd:List.take ((x.kids.map iE).length - Int.toNat (j:Int)) (List.drop (Int.toNat (j:Int)) (x.kids.map iE))=(x.kids.drop j).map iE:=by
  rw[Int.toNat_natCast,mβ (by simp),List.map_drop]
 simp only[Ő,hd,cn,show(0:Int)<=(j:Int) by omega,show(j:Int)<=((x.kids.map iE).length:Int) by simp_all,decide_true,az];have hkd:∀k∈x.kids.drop j,∃y,Gd ns k=some y:=fun k hm=>hk k (mι hm)
 have hld:(x.kids.drop j).length<1501:=by grind
 generalize x.kids.drop j=ks at hkd hld ⊢
 rw[lζ];refine(cd ks (fun q i=>itL (j8 _ (n+1503) _ _) q (ks.map iE,(ks.length:Int),i,x.r,ns.map No.e)) (fun k=>!m8 (oU ns k)) (fun i=>some (pB false,[x.r.b,.box [pL 8 (ns.map No.e)]])) (some (pB true,[x.r.b,.box [pL 8 (ns.map No.e)]])) (fun q i hi=>?_) (fun q=>?_) (by omega)).trans ?_
 ·rw[aM];obtain⟨y,hy⟩:=hkd ks[i] (lπ _);simp only[j8,fd (show((i:Int)<(ks.length:Int)) by omega),bg,bI hi,bH,dI,hy,Vb,V0,wS (show i<bX by unfold bX;omega),evC_known (Xc (n:=n+1501) y.op),eg,oU,Option.map_some,Option.getD_some];cases m8 y.op<;>rfl
 ·rw[aM];simp only[j8,dJ,aG]
 all_goals grind
def T1 {n:Nat}(ns:List No)(x:No)(j:Nat)(hj:j<=x.kids.length)(hk:∀k∈x.kids,∃y,Gd ns k=some y)(h:x.kids.length<1501):Ω (n+1504) 82 [pI j,.p (.fn 85 []),.box 0 0,.box 1 0] [x.r.b,.box [pL 8 (ns.map No.e)]]=some (pB (kJ ns x j pN),[x.r.b,.box [pL 8 (ns.map No.e)]]):=by
 apply Uw (n+1503) x.r (ns.map No.e) j;unfold DR kJ;have hd:List.take ((x.kids.map iE).length - Int.toNat (j:Int)) (List.drop (Int.toNat (j:Int)) (x.kids.map iE))=(x.kids.drop j).map iE:=by
  rw[Int.toNat_natCast,mβ (by simp),List.map_drop]
 simp only[Ő,hd,cn,show(0:Int)<=(j:Int) by omega,show(j:Int)<=((x.kids.map iE).length:Int) by simp_all,decide_true,az];have hkd:∀k∈x.kids.drop j,∃y,Gd ns k=some y:=fun k hm=>hk k (mι hm)
 have hld:(x.kids.drop j).length<1501:=by grind
 generalize x.kids.drop j=ks at hkd hld ⊢
 rw[lζ];refine(cd ks (fun q i=>itL (j9 _ (n+1503) _ _) q (ks.map iE,(ks.length:Int),i,x.r,ns.map No.e)) (fun k=>!pN (oU ns k)) (fun i=>some (pB false,[x.r.b,.box [pL 8 (ns.map No.e)]])) (some (pB true,[x.r.b,.box [pL 8 (ns.map No.e)]])) (fun q i hi=>?_) (fun q=>?_) (by omega)).trans ?_
 ·rw[aM];obtain⟨y,hy⟩:=hkd ks[i] (lπ _);simp only[j9,fd (show((i:Int)<(ks.length:Int)) by omega),bg,bI hi,bH,dI,hy,Vb,V0,wS (show i<bX by unfold bX;omega),evC_known (Xd (n:=n+1502) y.op),eg,oU,Option.map_some,Option.getD_some];cases pN y.op<;>rfl
 ·rw[aM];simp only[j9,dJ,aG]
 all_goals grind
def T2 {n:Nat}(ns:List No)(x:No)(j:Nat)(hj:j<=x.kids.length)(hk:∀k∈x.kids,∃y,Gd ns k=some y)(h:x.kids.length<1501):Ω (n+1504) 82 [pI j,.p (.fn 86 []),.box 0 0,.box 1 0] [x.r.b,.box [pL 8 (ns.map No.e)]]=some (pB (kJ ns x j lb),[x.r.b,.box [pL 8 (ns.map No.e)]]):=by
 apply Ux (n+1503) x.r (ns.map No.e) j;unfold DS kJ;have hd:List.take ((x.kids.map iE).length - Int.toNat (j:Int)) (List.drop (Int.toNat (j:Int)) (x.kids.map iE))=(x.kids.drop j).map iE:=by
  rw[Int.toNat_natCast,mβ (by simp),List.map_drop]
 simp only[Ő,hd,cn,show(0:Int)<=(j:Int) by omega,show(j:Int)<=((x.kids.map iE).length:Int) by simp_all,decide_true,az];have hkd:∀k∈x.kids.drop j,∃y,Gd ns k=some y:=fun k hm=>hk k (mι hm)
 have hld:(x.kids.drop j).length<1501:=by grind
 generalize x.kids.drop j=ks at hkd hld ⊢
 rw[lζ];refine(cd ks (fun q i=>itL (ka _ (n+1503) _ _) q (ks.map iE,(ks.length:Int),i,x.r,ns.map No.e)) (fun k=>!lb (oU ns k)) (fun i=>some (pB false,[x.r.b,.box [pL 8 (ns.map No.e)]])) (some (pB true,[x.r.b,.box [pL 8 (ns.map No.e)]])) (fun q i hi=>?_) (fun q=>?_) (by omega)).trans ?_
 ·rw[aM];obtain⟨y,hy⟩:=hkd ks[i] (lπ _);simp only[ka,fd (show((i:Int)<(ks.length:Int)) by omega),bg,bI hi,bH,dI,hy,Vb,V0,wS (show i<bX by unfold bX;omega),evC_known (Xe (n:=n+1502) y.op),eg,oU,Option.map_some,Option.getD_some];cases lb y.op<;>rfl
 ·rw[aM];simp only[ka,dJ,aG]
 all_goals grind
def ifK (ns:List No)(x:No)(m:Int):Bool:=gW x 2 m&&(bo (oU ns (x.kids.headD 0))&&kJ ns x 1 lb)
def pz (ns:List No)(x:No):Bool:=bif eqI x.op 1 then gW x 0 0 else bif eqI x.op 2 then gW x 0 0 else bif eqI x.op 3 then gW x 0 0 else bif eqI x.op 14 then gW x 0 0 else bif eqI x.op 4 then gW x 1 1&&kJ ns x 0 bo else bif eqI x.op 17 then gW x 1 1&&kJ ns x 0 bo else bif eqI x.op 5 then gW x 2 2&&kJ ns x 0 bo else bif eqI x.op 15 then gW x 2 2&&kJ ns x 0 bo else bif eqI x.op 16 then gW x 3 3&&kJ ns x 0 bo else bif eqI x.op 6 then gW x 0 16&&kJ ns x 0 bo else bif eqI x.op 7 then gW x 1 17&&kJ ns x 0 bo else bif eqI x.op 8 then gW x 1 1&&kJ ns x 0 m8 else bif eqI x.op 9 then gW x 1 1&&kJ ns x 0 m8 else bif eqI x.op 10 then gW x 1 1&&kJ ns x 0 pN else bif eqI x.op 11 then(bif eqI x.op 12 then ifK ns x 2 else ifK ns x 3)else bif eqI x.op 12 then(bif eqI x.op 12 then ifK ns x 2 else ifK ns x 3)else bif eqI x.op 13 then gW x 0 1&&kJ ns x 0 bo else bif eqI x.op 18 then kJ ns x 0 mw else false
def Ś {n:Nat}(ns:List No)(x:No)(hk:∀k∈x.kids,∃y,Gd ns k=some y)(h:x.kids.length<1501):Ω (n+1505) 53 [pL 8 (ns.map No.e),.p x.e] []=some (pB (pz ns x),[]):=by
 apply ū (n+1504) (ns.map No.e) x.r;have h1:∀(a b:Int) (K:KV),cE lay0.tab (n+1504) 81 [pI a,pI b,.box 0 0] [x.r.b] K=K (pB (gW x a b)) [x.r.b]:=fun a b=>evC_known (Xb (n:=n+1503) x a b)
 have hE:=evC_known (T3 (n:=n) ns x 0 (Nat.zero_le _) hk h);have hS:=evC_known (T4 (n:=n) ns x 0 (Nat.zero_le _) hk h);have hA:=evC_known (T0 (n:=n) ns x 0 (Nat.zero_le _) hk h);have hB:=evC_known (T1 (n:=n) ns x 0 (Nat.zero_le _) hk h);simp at hE hS hA hB;have hx:∀(o:Int) (K:KV),cE lay0.tab (n+1504) 83 [pI o] [] K=K (pB (bo o)) []:=fun o=>evC_known (mW (n:=n+1503) o)
 have hif:∀m,(iL (gW x 2 m) (cL (cp x.r.Kids 0) fun x133=>aP .i64 x133 fun i134=>cL (cp (ns.map No.e) i134) fun x135=>bn x135 fun u136=>cE lay0.tab (n+1504) 83 [(pI u136.Op)] [] fun d137 o138=>dP d137 fun x139=>af x139 fun b140=>ag o138<|iL b140 (cE lay0.tab (n+1504) 82 [(pI 1),(.p (.fn 86 [])),(.box 0 0),(.box 1 0)] [x.r.b,(.box [(pL 8 (ns.map No.e))])] fun d141 o142=>dP d141 fun x143=>af x143 fun b144=>bF [x.r.b,(.box [(pL 8 (ns.map No.e))])] o142<|iL b144 (some ((pB true),[])) (some ((pB false),[]))) (some ((pB false),[]))) (some ((pB false),[])))=some (pB (ifK ns x m),[]):=by
  intro m;unfold ifK;cases hks:x.kids with
  |nil=>
   have:gW x 2 m=false:=by unfold gW;rw[hks];rfl
   rw[this];rfl
  |cons k r=>
   obtain⟨y,hy⟩:=hk k (by simp_all);have hC:=evC_known (T2 (n:=n) ns x 1 (by simp_all) hk h);simp at hC;simp only[Ő,hks,bg,YV,bH,dI,hy,Vb,V0,hx,hC,aE,aj,ah,eg,dB,AX,Bool.and_true,List.headD_cons,oU,Option.map_some,Option.getD_some]
 simp only[Rb,V0,h1,aE,aj,hif];simp only[hE,hS,hA,hB,aE,aj,eg,dB,AX,Bool.and_true,pz]
def binO:List LN:=[[124,124],[38,38],[61,61],[33,61],[60],[60,61],[62],[62,61],[43],[45],[42],[47],[37]]
def v0:Va:=⟨0,0,[],[],[]⟩
def RS (x:No)(b:Bool):Bool:=bif eqI x.op 4 then(bif bv x.name [45]then b else bif bv x.name [33]then b else false)else bif eqI x.op 5 then(bif binO.any (fun t=>bv x.name t)then b else false)else bif eqI x.op 6 then(bif bw x.name then b else bif bv x.name [105,110,116,115]then b else bif bv x.name [115,116,114,105,110,103,115]then b else false)else bif eqI x.op 7 then(bif bw x.name then bif bw x.v.s then dC x.v ⟨0,0,x.v.s,[],[]⟩else false else false)else bif eqI x.op 8 then(bif bw x.name then bif eI x.v.k then dC x.v ⟨x.v.k,0,[],[],[]⟩else false else false)else bif bv x.name []then b else false
def xL (x:No):Bool:=bif bv x.name []then(bif kE x.v then(bif eqI x.v.k 1 then bif aS 0 x.v.n then true else bif eqI x.v.k 2 then true else eqI x.v.k 3 else bif eqI x.v.k 2 then true else eqI x.v.k 3)else false)else false
def dt (x:No):Bool:=bif eqI x.op 1 then xL x else bif eqI x.op 2 then(bif eqI x.op 2 then(bif bw x.name then dC x.v v0 else false)else RS x (dC x.v v0))else bif eqI x.op 9 then(bif bw x.name then dC x.v v0 else false)else RS x (dC x.v v0)
def IP {n:Nat}(x:No):Ω (n+1507) 54 [.p x.e] []=some (pB (dt x),[]):=by
 apply JT (n+1506) x.r;have h1:=evC_known (FE (n:=n+1) x.v v0 (.inr (by decide)) (.inr (by decide)));have h2:=evC_known (FE (n:=n+1) x.v ⟨0,0,x.v.s,[],[]⟩ (.inr (by simp)) (.inr (by simp)));have h3:=evC_known (FE (n:=n+1) x.v ⟨x.v.k,0,[],[],[]⟩ (.inr (by simp)) (.inr (by simp)));have h4:=evC_known (lq (n:=n) x.name);have h5:=evC_known (lq (n:=n) x.v.s);have h6:=evC_known (IQ (n:=n+3) x.v);have h7:=evC_known (W9 (n:=n+2) binO x.name (by decide));have h8:=evC_known (qV (n:=n+1505) x.v.k);simp only[Va.c,v0,List.map_nil]at h1 h2 h3 h6;simp only[binO,List.map_cons,List.map_nil]at h7;simp only[xx,V0,nr2,nr3,nr4,nr5,nr6,nr7,h1,h2,h3,h4,h5,h6,h7,h8,aE,aj,ah,dB,dt,xL,RS,v0,binO]
def ě {m:Nat}(k0:jV->R)(a b:LD)(N:Nat)(i5 i4 i6:Int)(x:No)(hs:LI)(hN:N=hs.length)(hk:gU N x.kids)(hl:x.kids.length<1501):∀(e q j:Nat) (mx:Int),j+e=x.kids.length->e<q->
  itL (j0 (cE lay0.tab m) m k0) q (a,N,i5,mx,b,i4,i6,x.kids.map iE,(x.kids.length:Int),(j:Int),hs.map iE,x.r)=k0 (a,N,i5,hK x.op hs (x.kids.drop j) j mx,b,i4,i6,x.kids.map iE,(x.kids.length:Int),(x.kids.length:Int),hs.map iE,x.r)
 |0,q+1,j,mx,h,_=>by
  obtain rfl:j=x.kids.length:=by omega
  rw[aM];simp only[j0,dJ,aG,List.drop_length,hK]
 |e+1,q+1,j,mx,h,hq=>by
  have hj:j<x.kids.length:=by omega
  obtain⟨g1,g2⟩:=hk x.kids[j] (lπ _);have g3:x.kids[j].toNat<hs.length:=by omega
  rw[aM,lι hj];simp only[j0,fd (show((j:Int)<(x.kids.length:Int)) by omega),bg,cS,bI hj,bH,dI,cn,g1,fd g2,Nat.zero_add,nF hs g3,V0,wS (show j<bX by unfold bX;omega),hK];cases eqI x.op 11<;>cases eqI x.op 12<;>cases eqI (j:Int) 0<;>exact ě k0 a b N i5 i4 i6 x hs hN hk hl e q (j+1) _ (by omega) (by omega)
def aa1 {m:Nat}(k0:jU->R)(ns:List No)(hm:1501<m)(hk:∀x∈ns,gU ns.length x.kids)(hkl:∀x∈ns,x.kids.length<1501)(hl:ns.length<1501):∀(e q i:Nat) (hs:LI),i+e=ns.length->e<q->hs.length=ns.length->
  itL (ic (cE lay0.tab m) m k0) q (ns.map No.e,ns.length,ns.map No.e,(ns.length:Int),(i:Int),hs.map iE)=k0 (ns.map No.e,ns.length,ns.map No.e,(ns.length:Int),(ns.length:Int),(hN (ns.drop i) i hs).map iE)
 |0,q+1,i,hs,h,_,hhs=>by
  obtain rfl:i=ns.length:=by omega
  rw[aM];simp only[ic,dJ,aG,List.drop_length,hN]
 |e+1,q+1,i,hs,h,hq,hhs=>by
  have hi:i<ns.length:=by omega
  have hx:ns[i]∈ns:=lπ _;rw[aM,lι hi];simp only[ic,bg,cS,bI hi,bH,Vb,Ő,lζ];have g:=ě (m:=m) (fun(l25,n26,i27,i28,l29,i30,i31,l32,i33,i34,l35,u36)=>itL (ic (cE lay0.tab m) m k0) q (l25,n26,l29,i30,ae .i64 (i31+1),List.set l35 (0+Int.toNat i27) (iE (GU u36.Op i28)))) (ns.map No.e) (ns.map No.e) ns.length i ns.length i ns[i] hs hhs.symm (hk _ hx) (hkl _ hx) ns[i].kids.length m 0 0 (by omega) (by grind)
  simp only[show((0:Nat):Int)=0 from rfl,Nat.zero_add,wS (show i<bX by unfold bX;omega)]at g;refine Eq.trans (Eq.trans ?_ g) ?_
  ·have g2:=fun k0'=>ě (m:=m) k0' (ns.map No.e) (ns.map No.e) ns.length i ns.length i ns[i] hs hhs.symm (hk _ hx) (hkl _ hx) ns[i].kids.length m 0 0 (by omega) (by grind)
   simp at g2;rw[g2,g2];simp only[V0,fd (show((i:Int)<(ns.length:Int)) by omega),Nat.zero_add,Int.toNat_natCast,nF hs (show i<hs.length by omega),wS (show i<bX by unfold bX;omega)];unfold GU;cases eqI ns[i].op 4<;>cases eqI ns[i].op 5<;>cases eqI ns[i].op 6<;>cases eqI ns[i].op 7<;>cases eqI ns[i].op 15<;>cases eqI ns[i].op 16<;>cases eqI ns[i].op 17<;>cases eqI ns[i].op 18<;>rfl
  ·rw[<-List.map_set];exact aa1 k0 ns hm hk hkl hl e q (i+1) _ (by omega) (by omega) (by grind)
def TZ {n:Nat}(ns:List No)(h0:0<ns.length)(hk:∀x∈ns,gU ns.length x.kids)(hkl:∀x∈ns,x.kids.length<1501)(hl:ns.length<1501):Ω (n+1503) 55 [pL 8 (ns.map No.e)] []=some (pI (cN ns),[]):=by
 apply Uu (n+1502) (ns.map No.e);unfold DP cN;have hw:ae .i64 ((ns.length:Int) - 1)=((ns.length - 1:Nat):Int):=by rw[cz (by omega) (by omega)];omega
 have hr:List.replicate ns.length (Da.int .i64 0)=(List.replicate ns.length (0:Int)).map iE:=by simp[iE]
 have g:=fun k0=>aa1 (m:=n+1502) k0 ns (by omega) hk hkl hl ns.length (n+1502) 0 (List.replicate ns.length 0) (by omega) (by omega) (by simp)
 simp only[show((0:Nat):Int)=0 from rfl,List.drop_zero]at g;simp only[lζ,Int.toNat_natCast,hr,g,cn,show(0:Int)<=(ns.length:Int) by omega,Int.le_refl,decide_true,Bool.true_and,show Nat.ble (ns.length*8) 281474976710656=true by simp;omega,show(ns.length:Int)<=9223372036854775807 by omega,az,bO,show ¬((ns.length:Int)=0) by omega,decide_false,aG,hw,show(0:Int)<=((ns.length - 1:Nat):Int) by omega,fd (show((ns.length - 1:Nat):Int)<(ns.length:Int) by omega),Nat.zero_add];rw[nF _ (by rw[PF];grind)];rfl
def NN {α:Type}[DecidableEq α](p:α->α->Bool){xs ys:List α}(hl:xs.length=ys.length)(hp:∀x y,p x y=decide (x=y)):(xs.zip ys).findIdx? (fun t=>!p t.1 t.2)=none↔xs=ys:=by
 induction xs generalizing ys with
 |nil=>cases ys<;>simp_all
 |cons x xs ih=>cases ys<;>simp_all
def Xa {n:Nat}(xs ys:LI)(h:xs.length<1501):Ω (n+1503) 31 [pL 1 (xs.map iE),pL 1 (ys.map iE)] []=some (pB (decide (xs=ys)),[]):=by
 apply X4 (n+1502) (xs.map iE) (ys.map iE);simp only[N4,lζ,bO,zw];by_cases hl:xs.length=ys.length
 ·rw[if_pos (by omega)];refine(cd (xs.zip ys) (fun q i=>itL (kh _ (n+1502) _ _) q (xs.map iE,ys.map iE,(xs.length:Int),i)) (fun t=>!eqI t.1 t.2) (fun i=>some (pB false,[])) (some (pB true,[])) (fun q i hi=>?_) (fun q=>?_) (by grind)).trans ?_
  ·simp at hi;rw[aM];simp only[kh,fd (show((i:Int)<(xs.length:Int)) by omega),az,bg,bI (show i<xs.length by omega),bI (show i<ys.length by omega),wS (show i<bX by unfold bX;omega),List.getElem_zip];exact qF _ _ _
  ·rw[aM];simp only[kh,qν,hl,Nat.min_self,dJ,aG]
  ·have key:=NN eqI hl bO;grind
 ·have:¬xs=ys:=fun e=>hl (by rw[e])
  grind
def TY {n:Nat}(xs ys:LI)(lo len:Nat)(hl:lo+len<=xs.length)(h:len<1501):Ω (n+1503) 31 [.arr 0 lo len 1,pL 1 (ys.map iE)] [.arr (xs.map iE)]=some (pB (decide ((xs.drop lo).take len=ys)),[.arr (xs.map iE)]):=by
 apply Us (n+1502) (xs.map iE) lo len (ys.map iE);have hzl:((xs.drop lo).take len).length=len:=by grind
 simp only[DN,lζ,bO,zw];by_cases he:len=ys.length
 ·rw[if_pos (by omega)];have hl2:((xs.drop lo).take len).length=ys.length:=by omega
  refine(cd (((xs.drop lo).take len).zip ys) (fun q i=>itL (jZ _ (n+1502) _ _) q (lo,len,ys.map iE,(len:Int),i,xs.map iE)) (fun t=>!eqI t.1 t.2) (fun i=>some (pB false,[.arr (xs.map iE)])) (some (pB true,[.arr (xs.map iE)])) (fun q i hi=>?_) (fun q=>?_) (by grind)).trans ?_
  ·simp at hi;rw[aM];have hg:(xs.map iE)[lo+i]?=some (iE (((xs.drop lo).take len)[i]'(by omega))):=by
    grind
   simp only[jZ,fd (show((i:Int)<(len:Int)) by omega),az,cn,show(0:Int)<=(i:Int) by omega,decide_true,Int.toNat_natCast,hg,bg,bI (show i<ys.length by omega),wS (show i<bX by unfold bX;omega),List.getElem_zip];exact qF _ _ _
  ·rw[aM];simp only[jZ,qν,hzl,<-he,Nat.min_self,dJ,aG]
  ·have key:=NN eqI hl2 bO;grind
 ·rw[if_neg (by omega)];have:¬(xs.drop lo).take len=ys:=fun e=>he (by simp_all)
  simp_all
def abP {n:Nat}(h:n<=1501):cO n 8=true:=by
 unfold cO;simp;omega
def E8 {n:Nat}(ns:List No)(hkl:∀x∈ns,x.kids.length<1000000000000)(hl:ns.length<1501)(k0:LD×aK->R)(k1:fI->R)(hk0:∀a b,k0 (a,b)=some (pB false,[]))(hk1:∀a b c d e,k1 (a,b,c,d,e)=some (pB (decide (a=1)),[])):∀(e q i:Nat) (roots:LI),i+e=ns.length->e<q->roots.length<=i->
  itL (fM (cE lay0.tab (n+1503)) (n+1503) k0 k1) q (roots.length,ns.map No.e,(ns.length:Int),(i:Int),roots.map iE)=some (pB (gM (ns.drop i) i roots),[])
 |0,q+1,i,roots,h,_,_=>by
  obtain rfl:i=ns.length:=by omega
  rw[aM];simp only[fM,dJ,aG,List.drop_length,gM,hk1]
 |e+1,q+1,i,roots,h,hq,hr=>by
  have hi:i<ns.length:=by omega
  have hx:ns[i]∈ns:=lπ _;have hkx:=hkl _ hx;rw[aM,lι hi];have hw:ae .i64 ((roots.length:Int) - ((ns[i].kids.map iE).length:Int))=(roots.length:Int) - (ns[i].kids.length:Int):=by
   rw[lζ,cz (by omega) (by omega)]
  simp only[fM,fd (show((i:Int)<(ns.length:Int)) by omega),az,bg,cS,bI hi,bH,Vb,Ő,hw,gM];by_cases hlt:roots.length<ns[i].kids.length
  ·rw[if_pos hlt,fd (by omega),az,hk0]
  ·rw[if_neg hlt,tz (by omega),aG];have ht:((roots.length:Int) - (ns[i].kids.length:Int)).toNat=roots.length - ns[i].kids.length:=by omega
   have hm:List.take (roots.length - ns[i].kids.length - 0) (roots.map iE)++[Da.int .i64 (i:Int)]=(roots.take (roots.length - ns[i].kids.length)++[(i:Int)]).map iE:=by
    rw[List.map_append,List.map_take];rfl
   have hb:cO ((List.take (roots.length - ns[i].kids.length - 0) (roots.map iE)).length+[Da.int .i64 (i:Int)].length) 8=true:=abP (by grind);have hv:=evC_known (TY (n:=n) roots ns[i].kids (roots.length - ns[i].kids.length) (roots.length - (roots.length - ns[i].kids.length)) (by omega) (by omega));have hz:=evC_known (Xa (n:=n) [] ns[i].kids (by simp));have hdr:(roots.drop (roots.length - ns[i].kids.length)).take (roots.length - (roots.length - ns[i].kids.length))=roots.drop (roots.length - ns[i].kids.length):=by
    rw[mβ (by simp)]
   rw[hdr]at hv;simp only[List.map_nil]at hz;have hrec:=E8 (n:=n) ns hkl hl k0 k1 hk0 hk1 e q (i+1) (roots.take (roots.length - ns[i].kids.length)++[(i:Int)]) (by omega) (by omega) (by grind);simp only[cn,show(0:Int)<=(roots.length:Int) - (ns[i].kids.length:Int) by omega,show(roots.length:Int) - (ns[i].kids.length:Int)<=(roots.length:Int) by omega,az,ht,Nat.zero_add,hv,hz,hb,hm,lζ,aE,aj,eg,wS (show i<bX by unfold bX;omega),hrec,Gg,acv];by_cases hd:roots.drop (roots.length - ns[i].kids.length)=ns[i].kids
   ·by_cases h0:roots.length - ns[i].kids.length=roots.length
    ·have hk:([]:LI)=ns[i].kids:=by simp_all
     rw[if_pos h0,if_pos hk];simp only[hd,if_true];cases Nat.blt 0 roots.length<;>rfl
    all_goals simp_all
   all_goals grind
def FD {n:Nat}(ns:List No)(hkl:∀x∈ns,x.kids.length<1000000000000)(hl:ns.length<1501):Ω (n+1504) 52 [pL 8 (ns.map No.e)] []=some (pB (gM ns 0 []),[]):=by
 apply FT (n+1503) (ns.map No.e);unfold tH;rw[lζ];refine(E8 (n:=n) ns hkl hl _ _ (fun _ _=>rfl) (fun a b c d e=>?_) ns.length (n+1503) 0 [] (by omega) (by omega) (by simp)).trans rfl;show iL (eqI (a:Int) 1) _ _=_;rw[dB,uj,bO];rw[show decide ((a:Int)=1)=decide (a=1)from decide_eq_decide.2 (by omega)]
def E7 {b:Nat}:∀(r:List No) (i:Nat) (roots:LI),i+r.length=b->gU i roots->gM r i roots=true->∀x∈r,gU b x.kids
 |[],_,_,_,_,_,x,hx=>by cases hx
 |y::r,i,roots,hb,hr,h,x,hx=>by
  simp only[gM]at h;split at h
  ·cases h
  ·split at h
   ·rename_i hlen hdrop;simp at hb;rcases mα.1 hx with rfl|hx
    ·intro k hk;rw[<-hdrop]at hk;obtain⟨g1,g2⟩:=hr k (mι hk);omega
    ·refine E7 r (i+1) _ (by omega) ?_ h x hx;intro k hk;rcases mγ.1 hk with hk|hk
     ·obtain⟨g1,g2⟩:=hr k (qγ hk);omega
     all_goals grind
   ·cases h
structure ae5 (x:No):Prop where
 iv:x.v.I.length<1501
 lv:x.v.L.length<1501
 ks:x.kids.length<1501
def gz (ns:List No):Bool:=gM ns 0 []&&(eqI (oU ns ((ns.length - 1:Nat):Int)) 18&&((ns.all fun x=>pz ns x&&dt x)&&aS (cN ns) 24))
def h_ {l:LI}(h:gU ns.length l):∀k∈l,∃y,Gd ns k=some y:=by
 intro k hk;obtain⟨g1,g2⟩:=h k hk;obtain⟨j,rfl⟩:∃j:Nat,k=(j:Int):=⟨k.toNat,by omega⟩
 exact⟨_,bI (by omega)⟩
def MS:∀(r:List No) (i:Nat) (roots:LI),roots.length<=i->gM r i roots=true->∀x∈r,x.kids.length<=i+r.length
 |[],_,_,_,_,x,hx=>by cases hx
 |y::r,i,roots,hl,h,x,hx=>by
  simp only[gM]at h;split at h
  ·cases h
  ·split at h
   ·rcases mα.1 hx with rfl|hx
    ·omega
    ·have:=MS r (i+1) _ (by grind) h x hx;grind
   ·cases h
def FG {n:Nat}(ns:List No)(hs:∀x∈ns,x.kids.length<1000000000000)(hl:ns.length<1501):Ω (n+1509) 21 [pL 8 (ns.map No.e)] []=some (pB (gz ns),[]):=by
 apply FV (n+1508) (ns.map No.e);unfold tK gz;simp only[evC_known (FD (n:=n+4) ns hs hl),aE,aj,ah];cases hp:gM ns 0 []with
 |false=>rfl
 |true=>
  obtain⟨k,hsub,hk1⟩:=xb ns 0 [] rfl (Nat.zero_le _) .nil hp;have hks:∀x∈ns,x.kids.length<1501:=fun x hx=>by have:=MS ns 0 [] (by simp) hp x hx;omega
  have hkk:=E7 (b:=ns.length) ns 0 [] (by omega) (fun k hk=>by cases hk) hp;have hw:ae .i64 (((ns.map No.e).length:Int) - 1)=((ns.length - 1:Nat):Int):=by rw[lζ,cz (by omega) (by omega)];omega
  have hlt:ns.length - 1<ns.length:=by omega
  simp only[hw,az,bg,cS,bI hlt,bH,Vb,V0,oU,Option.map_some,Option.getD_some,Bool.true_and];cases eqI ns[ns.length - 1].op 18 with
  |false=>rfl
  |true=>
   simp only[Bool.not_true,aG,Bool.true_and,lζ];refine(cd ns (fun q i=>itL (fN _ (n+1508) _ _) q (ns.map No.e,ns.map No.e,(ns.length:Int),i)) (fun x=>!(pz ns x&&dt x)) (fun i=>some (pB false,[])) (some (pB (aS (cN ns) 24),[])) (fun q i hi=>?_) (fun q=>?_) (by omega)).trans ?_
   ·rw[aM];have hx:ns[i]∈ns:=lπ _;have e1:=evC_known (Ś (n:=n+3) ns ns[i] (h_ (hkk _ hx)) (hks _ hx));have e2:=evC_known (IP (n:=n+1) ns[i]);simp only[No.e]at e1 e2;simp only[fN,fd (show((i:Int)<(ns.length:Int)) by omega),az,bg,cS,bI hi,bH,Vb,wS (show i<bX by unfold bX;omega),e1,e2,aE,aj,ah];cases pz ns ns[i]<;>cases dt ns[i]<;>rfl
   ·rw[aM];simp only[fN,dJ,aG,evC_known (TZ (n:=n+5) ns (by omega) hkk hks hl),aE,aW,ah,dB,uj]
   ·rw[ſ];cases ns.findIdx? fun x=>!(pz ns x&&dt x)<;>rfl
def dz (f:Fe):Bool:=bw f.name&&(eI f.kind&&(eqI f.init.k f.kind&&(kE f.init&&(!eqI f.init.n (-9223372036854775808)&&!f.init.I.any fun x=>eqI (-9223372036854775808) x))))
structure SzF (f:Fe):Prop where
 iv:f.init.I.length<1501
 lv:f.init.L.length<1501
def C1 {n:Nat}(f:Fe):Ω (n+1507) 19 [.p f.e] []=some (pB (dz f),[]):=by
 apply Df (n+1506) f.r;have h1:=evC_known (lq (n:=n) f.name);have h2:=evC_known (qV (n:=n+1505) f.kind);have h3:=evC_known (IQ (n:=n+3) f.init);simp only[Va.c]at h3;by_cases hi:f.init.I.length<1501
 ·have h4:=evC_known (W8 (n:=n+2) f.init.I (-9223372036854775808) hi);simp only[mX,show f.r.Name=f.name from rfl,show f.r.Kind=f.kind from rfl,show f.r.Init_Kind=f.init.k from rfl,show f.r.Init_N=f.init.n from rfl,show f.r.Init_S=f.init.s from rfl,show f.r.Init_I=f.init.I.map iE from rfl,show f.r.Init_L=f.init.L.map .str from rfl,h1,h2,h3,h4,aE,aj,ah,dB,AX,ae9,Bool.not_not,Bool.and_true,dz]
 ·have hv:kE f.init=false:=by
   cases h:kE f.init with
   |false=>rfl
   |true=>
    unfold kE xI fG at h;simp only[lγ,Bool.not_eq_true',qβ,cZ,lρ]at h;omega
  simp only[mX,show f.r.Name=f.name from rfl,show f.r.Kind=f.kind from rfl,show f.r.Init_Kind=f.init.k from rfl,show f.r.Init_N=f.init.n from rfl,show f.r.Init_S=f.init.s from rfl,show f.r.Init_I=f.init.I.map iE from rfl,show f.r.Init_L=f.init.L.map .str from rfl,h1,h2,h3,hv,dz];first|done|(cases bw f.name<;>cases eI f.kind<;>cases eqI f.init.k f.kind<;>rfl)
def iy (m:Me):Bool:=bw m.name&&(!aO 4 (m.params.length:Int)&&((!(!eqI m.result 0)||eI m.result)&&m.params.all fun p=>bw p.name&&eI p.kind))
def zM {n:Nat}(m:Me):Ω (n+1507) 20 [.p m.e] []=some (pB (iy m),[]):=by
 apply AI (n+1506) m.r;have h1:=evC_known (lq (n:=n) m.name);have h2:=evC_known (qV (n:=n+1505) m.result);by_cases hp:m.params.length<1501;case neg=>
  have h4:aO 4 (m.params.length:Int)=true:=fd (by omega);simp only[lz,show m.r.Name=m.name from rfl,show m.r.Params=m.params.map Pa.e from rfl,lζ,h4,h1,iy];cases bw m.name<;>rfl
 have hl:itL (cR (cE lay0.tab (n+1506)) (n+1506) (fun u22=>some (pB false,[])) (fun(l23,i24,i25)=>some (pB true,[]))) (n+1506) (m.params.map Pa.e,(m.params.length:Int),0)=some (pB (m.params.all fun p=>bw p.name&&eI p.kind),[]):=by
  refine(cd m.params (fun q i=>itL (cR _ (n+1506) _ _) q (m.params.map Pa.e,(m.params.length:Int),i)) (fun p=>!(bw p.name&&eI p.kind)) (fun i=>some (pB false,[])) (some (pB true,[])) (fun q i hi=>?_) (fun q=>?_) (by omega)).trans ?_
  ·rw[aM];simp only[cR,fd (show((i:Int)<(m.params.length:Int)) by omega),bg,cS,bI hi,bH,dPa,show ∀p:Pa,p.r.Name=p.name from fun _=>rfl,show ∀p:Pa,p.r.Kind=p.kind from fun _=>rfl,wS (show i<bX by unfold bX;omega),evC_known (lq (n:=n) m.params[i].name),evC_known (qV (n:=n+1505) m.params[i].kind),ah];cases bw m.params[i].name<;>cases eI m.params[i].kind<;>rfl
  ·rw[aM];simp only[cR,dJ,aG]
  all_goals grind
 simp only[lz,show m.r.Name=m.name from rfl,show m.r.Params=m.params.map Pa.e from rfl,show m.r.Result=m.result from rfl,lζ,hl,h1,h2,iy];cases bw m.name<;>cases aO 4 (m.params.length:Int)<;>cases eqI m.result 0<;>cases eI m.result<;>rfl
structure ae4 (m:Me):Prop where
 ps:m.params.length<1501
 ns:m.nodes.length<1501
 nx:∀x∈m.nodes,ae5 x
structure SzA (a:Ac):Prop where
 fl:a.fields.length<1501
 me:a.methods.length<1501
 ff:∀f∈a.fields,SzF f
 mm:∀m∈a.methods,ae4 m
def W7 {n:Nat}(fs:List Fe)(h:fs.length<1501):Ω (n+1510) 17 [pL 7 (fs.map Fe.e),.p (.fn 18 [])] []=some (pB (fs.any fun f=>!dz f),[]):=by
 have h1:∀f∈fs,Ω (n+1508) 18 [.p f.e] []=some (pB (!dz f),[]):=by
  intro f hm;apply Ut (n+1507) f.r;have:=evC_known (C1 (n:=n) f);simp only[Fe.e]at this;simp only[DO,this,aE,aj,ah,dB,adH]
 have hi:Ω (n+1509) 48 [pL 7 (fs.map Fe.e),.p (.fn 18 [])] []=some (pI (VH (fs.findIdx? fun f=>!dz f)),[]):=by
  apply Ũ (n+1508) (fs.map Fe.e);unfold Q8;rw[lζ];refine(cd fs (fun q i=>itL (nj _ (n+1508) _ _) q (fs.map Fe.e,(fs.length:Int),i)) (fun f=>!dz f) (fun i=>some (pI i,[])) (some (pI (-1),[])) (fun q i hi=>?_) (fun q=>?_) (by omega)).trans ?_
  ·rw[aM];have:=evC_known (h1 fs[i] (lπ _));simp only[Fe.e]at this;simp only[nj,fd (show((i:Int)<(fs.length:Int)) by omega),az,bg,cS,bI hi,bH,dFe,wS (show i<bX by unfold bX;omega),this,aE,aj,eg];exact qF _ _ _
  ·rw[aM];simp only[nj,dJ,aG]
  ·cases fs.findIdx? fun f=>!dz f<;>rfl
 apply XX (n+1509) (fs.map Fe.e);unfold IZ;simp only[evC_known hi,aE,aW,ah];rw[<-List.findIdx?_isSome];cases fs.findIdx? fun f=>!dz f with
 |none=>rfl
 |some j=>simp[VH,cn,az]
def hR:List Me->Int->Option Int
 |[],t=>some t
 |m::r,t=>bif aO 1500 (ae .i64 (t+(m.nodes.length:Int)))then none else bif iy m&&gz m.nodes then hR r (ae .i64 (t+(m.nodes.length:Int)))else none
def qn (a:Ac):Bool:=bw a.name&&(!aO 8 (a.fields.length:Int)&&(!aO 16 (a.methods.length:Int)&&!a.fields.any fun f=>!dz f))
def pg:List Ac->Int->Option Int
 |[],t=>some t
 |a::r,t=>bif qn a then(match hR a.methods t with|none=>none|some t=>pg r t)else none
def hZ (p:List Ac):Bool:=!aO 8 (p.length:Int)&&(pg p 0).isSome
structure SzB (b:Nat)(a:Ac):Prop where
 fl:a.fields.length<b
 me:a.methods.length<b
 fv:∀f∈a.fields,f.init.I.length<b/\f.init.L.length<b
 mp:∀m∈a.methods,m.params.length<b/\m.nodes.length<b/\∀x∈m.nodes,x.kids.length<b/\x.v.I.length<b/\x.v.L.length<b
def BJ:∀(l:List Me) (t t':Int),hR l t=some t'->(∀m∈l,m.nodes.length<1000000000000)->0<=t->t<=1500->0<=t'/\t'<=1500/\∀m∈l,m.nodes.length<=1500
 |[],t,t',h,_,h0,h1=>by
  simp only[hR,lβ]at h;simp_all
 |m::r,t,t',h,hb,h0,h1=>by
  have hm:=hb m (mπ ..);simp only[hR]at h;have hw:ae .i64 (t+(m.nodes.length:Int))=t+(m.nodes.length:Int):=cz (by omega) (by omega);rw[hw]at h;by_cases hg:1500<t+(m.nodes.length:Int)
  ·rw[fd hg]at h;cases h
  ·rw[tz hg]at h;cases ha:iy m&&gz m.nodes with
   |false=>simp_all
   |true=>
    rw[ha]at h;obtain⟨g1,g2,g3⟩:=BJ r _ t' h (fun x hx=>hb x (mω _ hx)) (by omega) (by omega);grind
def TM {n:Nat}(a b:Int)(l:LD)(ml:List Me)(hm:∀m∈ml,m.nodes.length<1000000000000/\∀x∈m.nodes,x.kids.length<1000000000000)(hl:ml.length<1501)(k0:bf->R)(k1:lB->R)(Z:R)(hk0:∀a,k0 a=Z):∀(e q j:Nat) (t:Int),j+e=ml.length->e<q->0<=t->t<=1500->
  itL (lH (cE lay0.tab (n+1510)) (n+1510) k0 k1) q (t,l,a,b,ml.map Me.e,(ml.length:Int),(j:Int))=match hR (ml.drop j) t with|none=>Z|some t=>k1 (t,l,a,b,ml.map Me.e,(ml.length:Int),(ml.length:Int))
 |0,q+1,j,t,h,_,_,_=>by
  obtain rfl:j=ml.length:=by omega
  rw[aM];simp only[lH,dJ,aG,List.drop_length,hR]
 |e+1,q+1,j,t,h,hq,h0,h1=>by
  have hj:j<ml.length:=by omega
  obtain⟨hx1,hx2⟩:=hm ml[j] (lπ _);have e1:=evC_known (zM (n:=n+3) ml[j]);simp only[Me.e]at e1;have hw:ae .i64 (t+(ml[j].nodes.length:Int))=t+(ml[j].nodes.length:Int):=cz (by omega) (by omega);rw[aM,lι hj];simp only[lH,fd (show((j:Int)<(ml.length:Int)) by omega),bg,cS,bI hj,bH,dMe,wS (show j<bX by unfold bX;omega),e1,show ml[j].r.Nodes=ml[j].nodes.map No.e from rfl,lζ,hk0,hR,hw];by_cases hg:1500<t+(ml[j].nodes.length:Int)
  ·rw[fd hg];rfl
  ·rw[tz hg];have e2:=evC_known (FG (n:=n+1) ml[j].nodes hx2 (by omega));simp only[e2,cond_false];cases iy ml[j]
   ·rfl
   ·cases gz ml[j].nodes
    ·rfl
    ·exact TM a b l ml hm hl k0 k1 Z hk0 e q (j+1) _ (by omega) (by omega) (by omega) (by omega)
def TO {n b:Nat}(p:List Ac)(hp:∀a∈p,SzB b a)(hb:b<=1000000000000)(hl:p.length<1501)(k0:ba->R)(k1:bf->R)(k2:lA->R)(Z:R)(hk0:∀a,k0 a=Z)(hk1:∀a,k1 a=Z)(W:R)(hk2:∀a b c d,k2 (a,b,c,d)=W):∀(e q j:Nat) (t:Int),j+e=p.length->e<q->0<=t->t<=1500->
  itL (lG (cE lay0.tab (n+1510)) (n+1510) k0 k1 k2) q (t,p.map Ac.e,(p.length:Int),(j:Int))=match pg (p.drop j) t with|none=>Z|some _=>W
 |0,q+1,j,t,h,_,_,_=>by
  obtain rfl:j=p.length:=by omega
  rw[aM];simp only[lG,dJ,aG,List.drop_length,pg,hk2]
 |e+1,q+1,j,t,h,hq,h0,h1=>by
  have hj:j<p.length:=by omega
  have hx:=hp p[j] (lπ _);have e1:=evC_known (lq (n:=n+4) p[j].name);rw[aM,lι hj];simp only[lG,fd (show((j:Int)<(p.length:Int)) by omega),bg,cS,bI hj,bH,dAc,show p[j].r.Name=p[j].name from rfl,show p[j].r.Fields=p[j].fields.map Fe.e from rfl,show p[j].r.Methods=p[j].methods.map Me.e from rfl,lζ,e1,hk0,pg,qn];cases bw p[j].name
  ·rfl
  by_cases hf:8<(p[j].fields.length:Int)
  ·rw[fd hf];rfl
  by_cases hm:16<(p[j].methods.length:Int)
  ·rw[tz hf,fd hm];rfl
  rw[tz hf,tz hm];have hmb:∀m∈p[j].methods,m.nodes.length<1000000000000/\∀x∈m.nodes,x.kids.length<1000000000000:=fun m hm=>⟨by have:=(hx.mp m hm).2.1;omega,fun x h=>by have:=((hx.mp m hm).2.2 x h).1;omega⟩
  have e2:=evC_known (W7 (n:=n) p[j].fields (by omega));have hmet:=fun kk=>TM (n:=n) (p.length:Int) (j:Int) (p.map Ac.e) p[j].methods hmb (by omega) (fun u32=>k1 u32) kk Z hk1 p[j].methods.length (n+1510) 0 t (by omega) (by omega) h0 h1
  simp at hmet;simp only[e2,hmet,wS (show j<bX by unfold bX;omega),Bool.true_and];cases p[j].fields.any fun f=>!dz f
  ·cases hs:hR p[j].methods t with
   |none=>rfl
   |some t'=>
    obtain⟨g1,g2,_⟩:=BJ _ _ _ hs (fun m hm=>(hmb m hm).1) h0 h1;exact TO p hp hb hl k0 k1 k2 Z hk0 hk1 W hk2 e q (j+1) _ (by omega) (by omega) g1 g2
  ·rfl
def IN {n b:Nat}(p:List Ac)(hp:∀a∈p,SzB b a)(hb:b<=1000000000000):Ω (n+1511) 9 [.p (.agg [.slice 3 (p.map Ac.e)])] []=some (pB (hZ p),[]):=by
 apply X0 (n+1510) ⟨p.map Ac.e⟩;unfold I2 hZ;simp only[lζ];by_cases hl:8<(p.length:Int)
 ·rw[fd hl];rfl
 ·rw[tz hl,aG];refine(TO (n:=n) p hp hb (by omega) _ _ _ (some (pB false,[])) (fun _=>rfl) (fun _=>rfl) (some (pB true,[])) (fun _ _ _ _=>rfl) p.length (n+1510) 0 0 (by omega) (by omega) (by omega) (by omega)).trans ?_;rw[List.drop_zero];cases pg p 0<;>rfl
def SzA.b {a:Ac}(h:SzA a):SzB 1501 a:=⟨h.fl,h.me,fun f hf=>⟨(h.ff f hf).iv,(h.ff f hf).lv⟩,fun m hm=>⟨(h.mm m hm).ps,(h.mm m hm).ns,fun x hx=>⟨((h.mm m hm).nx x hx).ks,((h.mm m hm).nx x hx).iv,((h.mm m hm).nx x hx).lv⟩⟩⟩
inductive Tr where
 |n (op:Int) (name:LN) (v:Va) (ks:List Tr)
mutual
def Tr.sz:Tr->Nat
 | .n _ _ _ ks=>eR ks+1
def eR:List Tr->Nat
 |[]=>0
 |t::r=>t.sz+eR r
end
def eJ:Nat->List Tr->LI
 |_,[]=>[]
 |b,t::r=>((b+t.sz - 1:Nat):Int)::eJ (b+t.sz) r
mutual
def Tr.fl:Tr->Nat->List No
 | .n op nm v ks,b=>iW ks b++[⟨op,nm,v,eJ b ks⟩]
def iW:List Tr->Nat->List No
 |[],_=>[]
 |t::r,b=>t.fl b++iW r (b+t.sz)
end
mutual
def DI (ns:List No):Tr->Nat->Prop
 | .n op nm v ks,b=>CW ns ks b/\ns[b+eR ks]?=some ⟨op,nm,v,eJ b ks⟩
def CW (ns:List No):List Tr->Nat->Prop
 |[],_=>True
 |t::r,b=>DI ns t b/\CW ns r (b+t.sz)
end
def Tr.op:Tr->Int| .n op _ _ _=>op
def Tr.ks:Tr->List Tr| .n _ _ _ ks=>ks
def Tr.nd:Tr->No| .n op nm v _=>⟨op,nm,v,[]⟩
def xl (t:Tr):1<=t.sz:=by cases t;simp only[Tr.sz];omega
mutual
def gB:∀(t:Tr) (b:Nat),(t.fl b).length=t.sz
 | .n op nm v ks,b=>by simp only[Tr.fl,Tr.sz,lα,List.length_cons,List.length_nil,iX ks b]
def iX:∀(l:List Tr) (b:Nat),(iW l b).length=eR l
 |[],b=>by simp only[iW,eR,List.length_nil]
 |t::r,b=>by simp only[iW,eR,lα,gB t b,iX r (b+t.sz)]
end
def oZ:∀(l:List Tr) (b:Nat),(eJ b l).length=l.length
 |[],_=>rfl
 |t::r,b=>by simp only[eJ,List.length_cons,oZ r]
mutual
def aay:∀(t:Tr) (p s:List No),DI (p++t.fl p.length++s) t p.length
 | .n op nm v ks,p,s=>by
  simp only[DI,Tr.fl];have h:=YU ks p ([⟨op,nm,v,eJ p.length ks⟩]++s);refine⟨by simpa[lε]using h,?_⟩
  have hl:(p++iW ks p.length).length=p.length+eR ks:=by rw[lα,iX]
  rw[show p++(iW ks p.length++[⟨op,nm,v,eJ p.length ks⟩])++s=(p++iW ks p.length)++(⟨op,nm,v,eJ p.length ks⟩::s) by simp[lε],<-hl,lτ (Nat.le_refl _),Nat.sub_self];rfl
def YU:∀(l:List Tr) (p s:List No),CW (p++iW l p.length++s) l p.length
 |[],p,s=>by simp only[CW]
 |t::r,p,s=>by
  simp only[CW,iW];have h1:=aay t p (iW r (p.length+t.sz)++s);have hl:(p++t.fl p.length).length=p.length+t.sz:=by rw[lα,gB]
  have h2:=YU r (p++t.fl p.length) s;rw[hl]at h2;exact⟨by simpa[lε]using h1,by simpa[lε]using h2⟩
end
mutual
def Ħ {ns:List No}{lo i:Nat}:Sub ns lo i->∃t:Tr,DI ns t lo/\lo+t.sz=i+1
 | .mk (x:=x) hx hc=>by
  obtain⟨ks,h1,h2,h3⟩:=aaD hc;refine⟨.n x.op x.name x.v ks,?_,by simp only[Tr.sz];omega⟩
  simp only[DI];refine⟨h1,?_⟩;rw[h2,hx,h3]
def aaD {ns:List No}{lo hi:Nat}{l:LI}:Ch ns lo l hi->∃ks:List Tr,CW ns ks lo/\lo+eR ks=hi/\eJ lo ks=l
 | .nil=>⟨[],by simp only[CW],by simp only[eR];omega,rfl⟩
 | .cons h1 h2=>by
  obtain⟨t,a1,a2⟩:=Ħ h1;obtain⟨ks,b1,b2,b3⟩:=aaD h2;have e:lo+t.sz=_:=a2;refine⟨t::ks,?_,?_,?_⟩
  ·simp only[CW];rw[e];exact⟨a1,b1⟩
  ·simp only[eR];omega
  ·simp only[eJ];rw[e,b3,Nat.add_sub_cancel]
end
mutual
def YW {ns:List No}:∀(t:Tr) (b:Nat),DI ns t b->(ns.drop b).take t.sz=t.fl b
 | .n op nm v ks,b,h=>by
  simp only[DI]at h;have h1:=YT ks b h.1;simp only[Tr.sz,Tr.fl,List.take_add_one,h1,List.getElem?_drop,h.2,Option.toList_some]
def YT {ns:List No}:∀(l:List Tr) (b:Nat),CW ns l b->(ns.drop b).take (eR l)=iW l b
 |[],b,h=>by simp only[eR,iW,List.take_zero]
 |t::r,b,h=>by
  simp only[CW]at h;have h1:=YW t b h.1;have h2:=YT r (b+t.sz) h.2;simp only[eR,iW,List.take_add,h1,mξ,h2]
end
def fC (op:Int)(ks:LI):Bool:=
 bif eqI op 1||(eqI op 2||(eqI op 3||eqI op 14))then ks.isEmpty else bif eqI op 4||eqI op 17 then Nat.beq ks.length 1&&ks.all bo else bif eqI op 5||eqI op 15 then Nat.beq ks.length 2&&ks.all bo else bif eqI op 16 then Nat.beq ks.length 3&&ks.all bo
 else bif eqI op 6 then Nat.ble ks.length 16&&ks.all bo else bif eqI op 7 then(Nat.ble 1 ks.length&&Nat.ble ks.length 17)&&ks.all bo else bif eqI op 8||eqI op 9 then Nat.beq ks.length 1&&ks.all m8 else bif eqI op 10 then Nat.beq ks.length 1&&ks.all pN
 else bif eqI op 11 then(Nat.ble 2 ks.length&&Nat.ble ks.length 3)&&(bo (ks.headD 0)&&(ks.drop 1).all lb)else bif eqI op 12 then Nat.beq ks.length 2&&(bo (ks.headD 0)&&(ks.drop 1).all lb)else bif eqI op 13 then Nat.ble ks.length 1&&ks.all bo else bif eqI op 18 then ks.all mw else false
mutual
def Wf:Tr->Prop
 | .n op nm v ks=>fC op (ks.map Tr.op)=true/\dt ⟨op,nm,v,[]⟩=true/\Ec ks
def Ec:List Tr->Prop
 |[]=>True
 |t::r=>Wf t/\Ec r
end
def ab3 {a b n:Nat}:(aS (a:Int) (n:Int)&&aS (n:Int) (b:Int))=(Nat.ble a n&&Nat.ble n b):=by
 have h1:aS (a:Int) (n:Int)=Nat.ble a n:=by
  rw[cn,mε,lδ,Nat.ble_eq];omega
 have h2:aS (n:Int) (b:Int)=Nat.ble n b:=by
  rw[cn,mε,lδ,Nat.ble_eq];omega
 grind
def rp:∀(t:Tr) (b:Nat),DI ns t b->oU ns ((b+t.sz - 1:Nat):Int)=t.op
 | .n op nm v ks,b,h=>by
  unfold oU;rw[la,show b+(Tr.n op nm v ks).sz - 1=b+eR ks by rfl,h.2];rfl
def ĉ {ns:List No}:∀(l:List Tr) (b:Nat),CW ns l b->(eJ b l).map (oU ns)=l.map Tr.op
 |[],b,h=>rfl
 |t::r,b,h=>by
  simp only[eJ,List.map_cons,rp t b h.1,ĉ r _ h.2]
variable {nm:LN}
def SI {op:Int}{v:Va}{l:List Tr}{b:Nat}(h:CW ns l b):pz ns ⟨op,nm,v,eJ b l⟩=fC op (l.map Tr.op):=by
 have hl:(eJ b l).length=(l.map Tr.op).length:=by rw[oZ,lζ]
 have ha:∀(j:Nat) (f:Int->Bool),kJ ns ⟨op,nm,v,eJ b l⟩ j f=((l.map Tr.op).drop j).all f:=fun j f=>by
  rw[<-ĉ l b h,<-List.map_drop,List.all_map];rfl
 have hc:∀a c:Nat,gW ⟨op,nm,v,eJ b l⟩ (a:Int) (c:Int)=(Nat.ble a (l.map Tr.op).length&&Nat.ble (l.map Tr.op).length c):=fun a c=>by
  unfold gW;rw[hl];exact ab3
 have hd:(eJ b l).headD 0=0/\l=[]\/∃t r,l=t::r/\oU ns ((eJ b l).headD 0)=t.op:=by
  cases l with
  |nil=>simp_all
  |cons t r=>
   exact .inr ⟨t,r,rfl,rp t b h.1⟩
 have hif:∀m:Nat,ifK ns ⟨op,nm,v,eJ b l⟩ (m:Int)=((Nat.ble 2 (l.map Tr.op).length&&Nat.ble (l.map Tr.op).length m)&&(bo ((l.map Tr.op).headD 0)&&((l.map Tr.op).drop 1).all lb)):=fun m=>by
  unfold ifK;rw[ha,show(2:Int)=((2:Nat):Int)from rfl,hc];rcases hd with⟨_,rfl⟩|⟨t,r,rfl,e⟩
  ·rfl
  all_goals simp_all
 have c0:gW ⟨op,nm,v,eJ b l⟩ 0 0=(l.map Tr.op).isEmpty:=by
  cases l<;>rfl
 have cc:∀a:Nat,(Nat.ble a (l.map Tr.op).length&&Nat.ble (l.map Tr.op).length a)=Nat.beq (l.map Tr.op).length a:=fun a=>by
  rw[mε,lγ,Nat.ble_eq,Nat.ble_eq,Nat.beq_eq];omega
 have c1:gW ⟨op,nm,v,eJ b l⟩ 1 1=Nat.beq (l.map Tr.op).length 1:=by grind
 have c2:gW ⟨op,nm,v,eJ b l⟩ 2 2=Nat.beq (l.map Tr.op).length 2:=by grind
 have c3:gW ⟨op,nm,v,eJ b l⟩ 3 3=Nat.beq (l.map Tr.op).length 3:=by grind
 have c6:gW ⟨op,nm,v,eJ b l⟩ 0 16=Nat.ble (l.map Tr.op).length 16:=by
  rw[show(0:Int)=((0:Nat):Int)from rfl,show(16:Int)=((16:Nat):Int)from rfl,hc];rfl
 have c7:gW ⟨op,nm,v,eJ b l⟩ 1 17=(Nat.ble 1 (l.map Tr.op).length&&Nat.ble (l.map Tr.op).length 17):=by grind
 have c13:gW ⟨op,nm,v,eJ b l⟩ 0 1=Nat.ble (l.map Tr.op).length 1:=by
  rw[show(0:Int)=((0:Nat):Int)from rfl,show(1:Int)=((1:Nat):Int)from rfl,hc];rfl
 have c11:=hif 3;have c12:=hif 2;rw[cc]at c12;have a0:=ha 0;unfold pz fC;simp only[c0,c1,c2,c3,c6,c7,c13,a0,show((2:Nat):Int)=2 from rfl,show((3:Nat):Int)=3 from rfl]at c11 c12 ⊢
 simp only[c11,c12];by_cases e:op=1\/op=2\/op=3\/op=4\/op=5\/op=6\/op=7\/op=8\/op=9\/op=10\/op=11\/op=12\/op=13\/op=14\/op=15\/op=16\/op=17\/op=18
 ·rcases e with rfl|rfl|rfl|rfl|rfl|rfl|rfl|rfl|rfl|rfl|rfl|rfl|rfl|rfl|rfl|rfl|rfl|rfl<;>rfl
 ·have n:∀k:Int,(k=1\/k=2\/k=3\/k=4\/k=5\/k=6\/k=7\/k=8\/k=9\/k=10\/k=11\/k=12\/k=13\/k=14\/k=15\/k=16\/k=17\/k=18)->eqI op k=false:=fun k hk=>Ps (fun h=>e (h▸hk))
  simp_all
mutual
def aa8 {ns:List No}(h:∀x∈ns,pz ns x=true/\dt x=true):∀(t:Tr) (b:Nat),DI ns t b->Wf t
 | .n op nm v ks,b,ha=>by
  simp only[DI]at ha;obtain⟨h1,h2⟩:=h _ (mθ ha.2);rw[SI ha.1]at h1;simp only[Wf];exact⟨h1,h2,Ŀ h ks b ha.1⟩
def Ŀ {ns:List No}(h:∀x∈ns,pz ns x=true/\dt x=true):∀(l:List Tr) (b:Nat),CW ns l b->Ec l
 |[],b,ha=>by simp only[Ec]
 |t::r,b,ha=>by
  simp only[CW]at ha;simp only[Ec];exact⟨aa8 h t b ha.1,Ŀ h r _ ha.2⟩
end
def wv (h:gz ns=true):∃t:Tr,ns=t.fl 0/\DI ns t 0/\t.sz=ns.length/\Wf t/\t.op=18/\cN ns<=24:=by
 unfold gz at h;simp only[lγ,lσ,cn,bO,lδ]at h;obtain⟨h1,h2,h3,h4⟩:=h;obtain⟨k,h5,h6⟩:=xb ns 0 [] rfl (Nat.zero_le _) .nil h1;obtain⟨t,h7,h8⟩:=Ħ h5;have hs:t.sz=ns.length:=by omega
 have he:=YW t 0 h7;rw[List.drop_zero,hs,List.take_length]at he;refine⟨t,he,h7,hs,aa8 h3 t 0 h7,?_,h4⟩;have:=rp t 0 h7;rw[Nat.zero_add,hs]at this;rw[<-this];exact h2.symm▸rfl
abbrev Ws:=List (List LN)
def rS:Ws->List LN
 |[]=>[]
 |w::_=>[101,108,115,101]::w
def aF:Ws->List LN
 |[]=>[]
 |w::r=>w++aF r
def bW (op:Int)(nm:LN)(v:Va)(ws:Ws):List LN:=
 bif eqI op 1 then kL v else bif eqI op 2 then[nm]else bif eqI op 3 then[[115,101,108,102]]else bif eqI op 4 then[[40],nm]++(ws.getD 0 []++[[41]])else bif eqI op 5 then[[40]]++(ws.getD 0 []++([nm]++(ws.getD 1 []++[[41]])))
 else bif eqI op 6 then[nm]++bp ws else bif eqI op 7 then[[99,97,108,108],nm]++(bp (ws.take 1)++([[46],v.s]++bp (ws.drop 1)))else bif eqI op 8 then[[108,101,116],nm,[58],ct v.k,[61]]++(ws.getD 0 []++[[59]])else bif eqI op 9 then[nm,[61]]++(ws.getD 0 []++[[59]])
 else bif eqI op 10 then ws.getD 0 []++[[59]]else bif eqI op 11 then[[105,102]]++(bp (ws.take 1)++(ws.getD 1 []++rS (ws.drop 2)))else bif eqI op 12 then[[119,104,105,108,101]]++(bp (ws.take 1)++ws.getD 1 [])else bif eqI op 13 then[[114,101,116,117,114,110]]++(aF ws++[[59]])else bif eqI op 14 then[[102,97,105,108]]++[[59]]
 else bif eqI op 15 then[[101,109,105,116]]++(bp ws++[[59]])else bif eqI op 16 then[[114,101,109,105,110,100]]++(bp ws++[[59]])else bif eqI op 17 then[[99,97,110,99,101,108]]++(bp ws++[[59]])else[[123]]++(aF ws++[[125]])
def KOk (nd:List No)(m:Nat)(ks:LI)(ws:Ws):Prop:=∀(j:Nat) (h:j<ks.length) (h':j<ws.length) (o:LN),o.length+(av ws[j]).length<cm->
 Ω m 27 [.box 0 0,pI ks[j]] (Wb o nd).hp=some (.tup [],(Wb (o++av ws[j]) nd).hp)
def adF (ks:LI)(j:Nat)(h:j<ks.length):cp (ks.map iE) (j:Int)=some (iE ks[j]):=by rw[bg,bI h];rfl
def KOk.take {nd:List No}{m:Nat}{ks:LI}{ws:Ws}(h:KOk nd m ks ws)(n:Nat):KOk nd m (ks.take n) (ws.take n):=fun j h1 h2 o ho=>by
 rw[mδ]at h1 h2;rw[List.getElem_take]at ho ⊢
 rw[List.getElem_take];exact h j (by omega) (by omega) o ho
def KOk.drop {nd:List No}{m:Nat}{ks:LI}{ws:Ws}(h:KOk nd m ks ws)(n:Nat):KOk nd m (ks.drop n) (ws.drop n):=fun j h1 h2 o ho=>by
 rw[lχ]at h1 h2;rw[List.getElem_drop]at ho ⊢
 rw[List.getElem_drop];exact h (n+j) (by omega) (by omega) o ho
def TX (nd:List No)(ks:LI)(ws:Ws)(o:LN)(hlen:ws.length=ks.length)(hk:∀m',m<=m'+3->KOk nd m' ks ws)(hm:ws.length+8<=m)(hb:ws.length<100000)(hl:o.length+(av (bp ws)).length<cm):
  Ω m 62 [.box 0 0,pL 1 (ks.map iE)] (Wb o nd).hp=some (.tup [],(Wb (o++av (bp ws)) nd).hp):=by
 replace hm:=aH hm;obtain⟨m,rfl,hm⟩:=hm;apply OY m (Wb o nd) (ks.map iE);unfold Ag;have e:=Ŗ (m:=m) (ks.map iE) nd ws o (by omega) (by unfold bX;omega) hl (fun j hj o' ho=>by
  have hm2:∃k,m - 1=k+1:=⟨m - 2,by omega⟩
  obtain⟨k,hk2⟩:=hm2;rw[hk2];apply J1 k (Ŧ.mk (Wb o' nd).bu (Wb o' nd).ns (Wb o' nd).ou (ks.map iE)) (j:Int);unfold xD;have hw:(cG.mk (Wb o' nd).bu (Wb o' nd).ns (Wb o' nd).ou)=Wb o' nd:=rfl;have e1:=evC_known (hk k (by omega) j (by omega) hj o' ho);simp only[adF ks j (by omega),bH,dI,hw,e1,aL,ah,cF])
 rw[hlen]at e;have e:=evC_known e;simp only[lζ,e,aL,ah,aff]
def wN {m:Nat}(nd:List No)(ks:LI)(ws:Ws)(hlen:ws.length=ks.length)(hb:ks.length<bX)(hk:KOk nd m ks ws)(k0:LD×Int×Int×Bool×Nat×LD×LD->R):∀(r:Ws) (q i:Nat) (o:LN),ws.drop i=r->r.length<q->i<=ws.length->o.length+(av (aF r)).length<cm->
  L_ystatementW_1 (cE lay0.tab m) m k0 q (ks.map iE,(ks.length:Int),(i:Int),(Wb o nd).bu,(Wb o nd).ns,(Wb o nd).ou)=k0 (ks.map iE,(ks.length:Int),(ks.length:Int),false,(Wb (o++av (aF r)) nd).bu,(Wb (o++av (aF r)) nd).ns,(Wb (o++av (aF r)) nd).ou)
 |[],q,i,o,hd,hq,hi,hl=>by
  cases q with
  |zero=>simp at hq
  |succ q=>
   have hil:i=ks.length:=by
    have:=congrArg List.length hd;simp at this;omega
   subst hil;rw[ni];simp only[fb,dJ,aG,aF,av,lν]
 |w::r,q,i,o,hd,hq,hi,hl=>by
  cases q with
  |zero=>simp at hq
  |succ q=>
   have hlt:i<ws.length:=by
    rcases lυ i ws.length with h|h
    ·exact h
    ·rw[mτ h]at hd;cases hd
   rw[lι hlt]at hd;injection hd with ht hd;simp only[List.length_cons]at hq;simp only[aF,aJ,lα]at hl;have e1:=hk i (by omega) hlt o (by rw[ht];omega);rw[ht]at e1;have e1:=evC_known e1;have ih:=wN nd ks ws hlen hb hk k0 r q (i+1) (o++av w) hd (by omega) hlt (by rw[lα];omega);have hw:(cG.mk (Wb o nd).bu (Wb o nd).ns (Wb o nd).ou)=Wb o nd:=rfl;rw[ni];simp only[fb,fd (show((i:Int)<(ks.length:Int)) by omega),az,adF ks i (by omega),bH,dI,hw,e1,aL,ah,cF,wS (show i<bX by omega),aF,aJ];refine ih.trans ?_;simp only[lε]
def L21: @pn= @L_ystatementW_1:=rfl
def gN (ts:List LN)(o:LN)(nd:List No)(hm:12<=m)(ht:ts.length<=6)(hl:o.length+(av ts).length<cm)(K:KV):cE lay0.tab m 22 [.box 0 0,pL 1 (ts.map .str)] (Wb o nd).hp K=K (.tup []) (Wb (o++av ts) nd).hp:=
 evC_known (gw ts o nd (by omega) (by unfold bX;omega) hl) K
def len1 {l:List α}(h:l.length=1):∃a,l=[a]:=by
 match l,h with
 |[a],_=>simp
def VS {l:List α}(h:l.length=2):∃a b,l=[a,b]:=by
 match l,h with
 |[a,b],_=>simp
def ad5 {l:List α}(h:l.length=3):∃a b c,l=[a,b,c]:=by
 match l,h with
 |[a,b,c],_=>simp
variable {ws:Ws}
def ã {nd:List No}{k:Int}{w:List LN}{ks:LI}(h:KOk nd m (k::ks) (w::ws))(o:LN)(ho:o.length+(av w).length<cm)(K:KV):cE lay0.tab m 27 [.box 0 0,pI k] (Wb o nd).hp K=K (.tup []) (Wb (o++av w) nd).hp:=evC_known (h 0 (by simp) (by simp) o ho) K
variable {x:List LN}
def g_ {nd:List No}{k j:Int}{w:List LN}{ks:LI}(h:KOk nd m (j::k::ks) (x::w::ws))(o:LN)(ho:o.length+(av w).length<cm)(K:KV):cE lay0.tab m 27 [.box 0 0,pI k] (Wb o nd).hp K=K (.tup []) (Wb (o++av w) nd).hp:=evC_known (h 1 (by simp) (by simp) o ho) K
def afx {nd:List No}{k j i:Int}{w y:List LN}{ks:LI}(h:KOk nd m (i::j::k::ks) (y::x::w::ws))(o:LN)(ho:o.length+(av w).length<cm)(K:KV):cE lay0.tab m 27 [.box 0 0,pI k] (Wb o nd).hp K=K (.tup []) (Wb (o++av w) nd).hp:=evC_known (h 2 (by simp) (by simp) o ho) K
def uO {nd:List No}{ks:LI}(o:LN)(hlen:ws.length=ks.length)(hk:∀m',m<=m'+3->KOk nd m' ks ws)(hm:ws.length+8<=m)(hb:ws.length<100000)(hl:o.length+(av (bp ws)).length<cm)(K:KV):cE lay0.tab m 62 [.box 0 0,pL 1 (ks.map iE)] (Wb o nd).hp K=K (.tup []) (Wb (o++av (bp ws)) nd).hp:=evC_known (TX nd ks ws o hlen hk hm hb hl) K
def afE (o a:LN)(nd:List No)(hm:12<=m)(hl:o.length+(av [[59]]).length<cm)(ha:o++av [[59]]=a):dM (cE lay0.tab m) (Wb o nd)=some (.tup [],(Wb a nd).hp):=by
 have e:=gN (m:=m) [[59]] o nd hm (by decide) hl;simp at e;unfold dM cH;simp only[e,aL,ah,cF,ha]
def Ct (o a:LN)(nd:List No)(hm:12<=m)(hl:o.length+(av [[59]]).length<cm)(ha:o++av [[59]]=a):eX (.tup []) (Wb o nd).hp (cE lay0.tab m)=some (.tup [],(Wb a nd).hp):=by
 unfold eX;exact afE o a nd hm hl ha
def afG (nd:List No)(nm:LN)(v:Va)(ks:LI)(ws:Ws)(hlen:ws.length=ks.length)(hb:ks.length<100000)(hk0:KOk nd m ks ws)(hk4:∀m',m<=m'+3->KOk nd m' ks ws)(hc:ks.length=1)(h8:1<=v.k/\v.k<=5)(hm:ws.length+139<=m)(o:LN)(hl:o.length+(av (bW 8 nm v ws)).length<cm):aV (cE lay0.tab m) m (Wb o nd) (No.mk 8 nm v ks).r=some (.tup [],(Wb (o++av (bW 8 nm v ws)) nd).hp):=by
 obtain⟨w,rfl⟩:=len1 (l:=ws) (by omega);obtain⟨k,rfl⟩:=len1 (l:=ks) (by omega);rw[show bW 8 nm v [w]=[[108,101,116],nm,[58],ct v.k,[61]]++(w++[[59]])from rfl,aJ,aJ]at hl ⊢
 simp at hl;have e0:=evC_known (oc (m:=m) v.k (by omega) h8);have e1:=gN (m:=m) [[108,101,116],nm,[58],ct v.k,[61]] o nd (by omega) (by simp) (by omega);have e2:=ã hk0 (o++av [[108,101,116],nm,[58],ct v.k,[61]]) (by grind);simp at e1;unfold aV;unfold bR;simp -implicitDefEqProofs only[show(No.mk 8 nm v [k]).r.Name=nm from rfl,show(No.mk 8 nm v [k]).r.Kids=[k].map iE from rfl,show(No.mk 8 nm v [k]).r.Value_Kind=v.k from rfl,e0,aE,fo,e1,cF,dN,List.map_cons,List.map_nil,show cp [iE k] 0=some (iE k)from rfl,bH,dI,e2];exact Ct _ _ nd (by omega) (by grind) (by simp)
def afH (nd:List No)(nm:LN)(v:Va)(ks:LI)(ws:Ws)(hlen:ws.length=ks.length)(hb:ks.length<100000)(hk0:KOk nd m ks ws)(hk4:∀m',m<=m'+3->KOk nd m' ks ws)(hc:ks.length=1)(hm:ws.length+139<=m)(o:LN)(hl:o.length+(av (bW 9 nm v ws)).length<cm):aV (cE lay0.tab m) m (Wb o nd) (No.mk 9 nm v ks).r=some (.tup [],(Wb (o++av (bW 9 nm v ws)) nd).hp):=by
 obtain⟨w,rfl⟩:=len1 (l:=ws) (by omega);obtain⟨k,rfl⟩:=len1 (l:=ks) (by omega);rw[show bW 9 nm v [w]=[nm,[61]]++(w++[[59]])from rfl,aJ,aJ]at hl ⊢
 simp at hl;have e1:=gN (m:=m) [nm,[61]] o nd (by omega) (by simp) (by omega);have e2:=ã hk0 (o++av [nm,[61]]) (by grind);simp at e1;unfold aV;unfold bR;simp -implicitDefEqProofs only[show(No.mk 9 nm v [k]).r.Name=nm from rfl,show(No.mk 9 nm v [k]).r.Kids=[k].map iE from rfl,e1,cF,dN,List.map_cons,List.map_nil,show cp [iE k] 0=some (iE k)from rfl,bH,dI,e2];exact Ct _ _ nd (by omega) (by grind) (by simp)
def aey (nd:List No)(nm:LN)(v:Va)(ks:LI)(ws:Ws)(hlen:ws.length=ks.length)(hb:ks.length<100000)(hk0:KOk nd m ks ws)(hk4:∀m',m<=m'+3->KOk nd m' ks ws)(hc:ks.length=1)(hm:ws.length+139<=m)(o:LN)(hl:o.length+(av (bW 10 nm v ws)).length<cm):aV (cE lay0.tab m) m (Wb o nd) (No.mk 10 nm v ks).r=some (.tup [],(Wb (o++av (bW 10 nm v ws)) nd).hp):=by
 obtain⟨w,rfl⟩:=len1 (l:=ws) (by omega);obtain⟨k,rfl⟩:=len1 (l:=ks) (by omega);rw[show bW 10 nm v [w]=w++[[59]]from rfl,aJ]at hl ⊢
 simp at hl;have e2:=ã hk0 o (by omega);unfold aV;unfold bR;simp -implicitDefEqProofs only[show(No.mk 10 nm v [k]).r.Kids=[k].map iE from rfl,dN,List.map_cons,List.map_nil,show cp [iE k] 0=some (iE k)from rfl,bH,dI,e2];exact Ct _ _ nd (by omega) (by grind) (by simp)
def adf (nd:List No)(nm:LN)(v:Va)(ks:LI)(ws:Ws)(hlen:ws.length=ks.length)(hb:ks.length<100000)(hk0:KOk nd m ks ws)(hk4:∀m',m<=m'+3->KOk nd m' ks ws)(hc:ks.length=2)(hm:ws.length+139<=m)(o:LN)(hl:o.length+(av (bW 11 nm v ws)).length<cm):aV (cE lay0.tab m) m (Wb o nd) (No.mk 11 nm v ks).r=some (.tup [],(Wb (o++av (bW 11 nm v ws)) nd).hp):=by
 obtain⟨k0,k1,rfl⟩:=VS (l:=ks) (by omega);obtain⟨w0,w1,rfl⟩:=VS (l:=ws) hlen;rw[show bW 11 nm v [w0,w1]=[[105,102]]++(bp [w0]++w1) by show[[105,102]]++(bp [w0]++(w1++[]))=_;simp]at hl ⊢
 rw[aJ,aJ]at hl ⊢
 simp at hl;have e1:=gN (m:=m) [[105,102]] o nd (by omega) (by simp) (by omega);have e2:=uO (o++av [[105,102]]) (ks:=[k0]) (ws:=[w0]) rfl (fun m' h=>(hk4 m' h).take 1) (by grind) (by simp) (by grind);have e3:=g_ hk0 (o++av [[105,102]]++av (bp [w0])) (by grind);simp only[List.map_cons,List.map_nil]at e1 e2;unfold aV;simp -implicitDefEqProofs only[show(No.mk 11 nm v [k0,k1]).r.Op=11 from rfl,show eqI 11 11=true from rfl,az];unfold eW;simp -implicitDefEqProofs only[show(No.mk 11 nm v [k0,k1]).r.Op=11 from rfl,show(No.mk 11 nm v [k0,k1]).r.Kids=[k0,k1].map iE from rfl,show ae .i64 (11 - 11)=0 from cz (by decide) (by decide),show aS 0 0=true from rfl,show aO 0 2=true from rfl,show[Da.str [105,102],Da.str [119,104,105,108,101]][Int.toNat 0]?=some (Da.str [105,102])from rfl,bH,cV,e1,List.map_cons,List.map_nil]
 simp -implicitDefEqProofs only[show aS 1 (([iE k0,iE k1].length:Nat):Int)=true from rfl,show eqI (([iE k0,iE k1].length:Nat):Int) 3=false from rfl,az,show List.take (Int.toNat 1 - 0) (List.drop 0 [iE k0,iE k1])=[iE k0]from rfl,e2,aL,ah,cF,show cp [iE k0,iE k1] 1=some (iE k1)from rfl,bH,dI,e3,aG];simp
def adg (nd:List No)(nm:LN)(v:Va)(ks:LI)(ws:Ws)(hlen:ws.length=ks.length)(hb:ks.length<100000)(hk0:KOk nd m ks ws)(hk4:∀m',m<=m'+3->KOk nd m' ks ws)(hc:ks.length=3)(hm:ws.length+139<=m)(o:LN)(hl:o.length+(av (bW 11 nm v ws)).length<cm):aV (cE lay0.tab m) m (Wb o nd) (No.mk 11 nm v ks).r=some (.tup [],(Wb (o++av (bW 11 nm v ws)) nd).hp):=by
 obtain⟨k0,k1,k2,rfl⟩:=ad5 (l:=ks) (by omega);obtain⟨w0,w1,w2,rfl⟩:=ad5 (l:=ws) hlen;rw[show bW 11 nm v [w0,w1,w2]=[[105,102]]++(bp [w0]++(w1++([[101,108,115,101]]++w2)))from rfl,aJ,aJ,aJ,aJ]at hl ⊢
 simp at hl;have e1:=gN (m:=m) [[105,102]] o nd (by omega) (by simp) (by omega);have e2:=uO (o++av [[105,102]]) (ks:=[k0]) (ws:=[w0]) rfl (fun m' h=>(hk4 m' h).take 1) (by grind) (by simp) (by grind);have e3:=g_ hk0 (o++av [[105,102]]++av (bp [w0])) (by grind);have e4:=gN (m:=m) [[101,108,115,101]] (o++av [[105,102]]++av (bp [w0])++av w1) nd (by omega) (by simp) (by grind);have e5:=afx hk0 (o++av [[105,102]]++av (bp [w0])++av w1++av [[101,108,115,101]]) (by grind);simp only[List.map_cons,List.map_nil]at e1 e2 e4;unfold aV;simp -implicitDefEqProofs only[show(No.mk 11 nm v [k0,k1,k2]).r.Op=11 from rfl,show eqI 11 11=true from rfl,az];unfold eW;simp -implicitDefEqProofs only[show(No.mk 11 nm v [k0,k1,k2]).r.Op=11 from rfl,show(No.mk 11 nm v [k0,k1,k2]).r.Kids=[k0,k1,k2].map iE from rfl,show ae .i64 (11 - 11)=0 from cz (by decide) (by decide),show aS 0 0=true from rfl,show aO 0 2=true from rfl,show[Da.str [105,102],Da.str [119,104,105,108,101]][Int.toNat 0]?=some (Da.str [105,102])from rfl,bH,cV,e1,List.map_cons,List.map_nil]
 simp -implicitDefEqProofs only[show aS 1 (([iE k0,iE k1,iE k2].length:Nat):Int)=true from rfl,show eqI (([iE k0,iE k1,iE k2].length:Nat):Int) 3=true from rfl,az,show List.take (Int.toNat 1 - 0) (List.drop 0 [iE k0,iE k1,iE k2])=[iE k0]from rfl,e2,aL,ah,cF,show cp [iE k0,iE k1,iE k2] 1=some (iE k1)from rfl,bH,dI,e3,e4,show cp [iE k0,iE k1,iE k2] 2=some (iE k2)from rfl,e5,cH];simp
def aez (nd:List No)(nm:LN)(v:Va)(ks:LI)(ws:Ws)(hlen:ws.length=ks.length)(hb:ks.length<100000)(hk0:KOk nd m ks ws)(hk4:∀m',m<=m'+3->KOk nd m' ks ws)(hc:ks.length=2)(hm:ws.length+139<=m)(o:LN)(hl:o.length+(av (bW 12 nm v ws)).length<cm):aV (cE lay0.tab m) m (Wb o nd) (No.mk 12 nm v ks).r=some (.tup [],(Wb (o++av (bW 12 nm v ws)) nd).hp):=by
 obtain⟨k0,k1,rfl⟩:=VS (l:=ks) (by omega);obtain⟨w0,w1,rfl⟩:=VS (l:=ws) hlen;rw[show bW 12 nm v [w0,w1]=[[119,104,105,108,101]]++(bp [w0]++w1)from rfl,aJ,aJ]at hl ⊢
 simp at hl;have e1:=gN (m:=m) [[119,104,105,108,101]] o nd (by omega) (by simp) (by omega);have e2:=uO (o++av [[119,104,105,108,101]]) (ks:=[k0]) (ws:=[w0]) rfl (fun m' h=>(hk4 m' h).take 1) (by grind) (by simp) (by grind);have e3:=g_ hk0 (o++av [[119,104,105,108,101]]++av (bp [w0])) (by grind);simp only[List.map_cons,List.map_nil]at e1 e2;unfold aV;simp -implicitDefEqProofs only[show(No.mk 12 nm v [k0,k1]).r.Op=12 from rfl,show eqI 12 11=false from rfl,show eqI 12 12=true from rfl,az];unfold eW;simp -implicitDefEqProofs only[show(No.mk 12 nm v [k0,k1]).r.Op=12 from rfl,show(No.mk 12 nm v [k0,k1]).r.Kids=[k0,k1].map iE from rfl,show ae .i64 (12 - 11)=1 from cz (by decide) (by decide),show aS 0 1=true from rfl,show aO 1 2=true from rfl,show[Da.str [105,102],Da.str [119,104,105,108,101]][Int.toNat 1]?=some (Da.str [119,104,105,108,101])from rfl,bH,cV,e1,List.map_cons,List.map_nil]
 simp -implicitDefEqProofs only[show aS 1 (([iE k0,iE k1].length:Nat):Int)=true from rfl,show eqI (([iE k0,iE k1].length:Nat):Int) 3=false from rfl,az,show List.take (Int.toNat 1 - 0) (List.drop 0 [iE k0,iE k1])=[iE k0]from rfl,e2,aL,ah,cF,show cp [iE k0,iE k1] 1=some (iE k1)from rfl,bH,dI,e3,aG];simp
def aeA (nd:List No)(nm:LN)(v:Va)(ks:LI)(ws:Ws)(hlen:ws.length=ks.length)(hb:ks.length<100000)(hk0:KOk nd m ks ws)(hk4:∀m',m<=m'+3->KOk nd m' ks ws)(hm:ws.length+139<=m)(o:LN)(hl:o.length+(av (bW 13 nm v ws)).length<cm):aV (cE lay0.tab m) m (Wb o nd) (No.mk 13 nm v ks).r=some (.tup [],(Wb (o++av (bW 13 nm v ws)) nd).hp):=by
 rw[show bW 13 nm v ws=[[114,101,116,117,114,110]]++(aF ws++[[59]])from rfl,aJ,aJ]at hl ⊢
 simp at hl;have e1:=gN (m:=m) [[114,101,116,117,114,110]] o nd (by omega) (by simp) (by omega);have e3:=gN (m:=m) [[59]] (o++av [[114,101,116,117,114,110]]++av (aF ws)) nd (by omega) (by simp) (by grind);simp only[List.map_cons,List.map_nil]at e1 e3;unfold aV;unfold bR;simp -implicitDefEqProofs only[show(No.mk 13 nm v ks).r.Kids=ks.map iE from rfl,e1,lζ];rw[L21];refine(wN nd ks ws hlen (by unfold bX;omega) hk0 _ ws m 0 (o++av [[114,101,116,117,114,110]]) rfl (by omega) (Nat.zero_le _) (by grind)).trans ?_;have hw:(cG.mk (Wb (o++av [[114,101,116,117,114,110]]++av (aF ws)) nd).bu (Wb (o++av [[114,101,116,117,114,110]]++av (aF ws)) nd).ns (Wb (o++av [[114,101,116,117,114,110]]++av (aF ws)) nd).ou)=Wb (o++av [[114,101,116,117,114,110]]++av (aF ws)) nd:=rfl;simp -implicitDefEqProofs only[e3,cH,aL,ah,cF];simp
def aeF (nd:List No)(nm:LN)(v:Va)(ks:LI)(ws:Ws)(hlen:ws.length=ks.length)(hb:ks.length<100000)(hk0:KOk nd m ks ws)(hk4:∀m',m<=m'+3->KOk nd m' ks ws)(hm:ws.length+139<=m)(o:LN)(hl:o.length+(av (bW 18 nm v ws)).length<cm):aV (cE lay0.tab m) m (Wb o nd) (No.mk 18 nm v ks).r=some (.tup [],(Wb (o++av (bW 18 nm v ws)) nd).hp):=by
 rw[show bW 18 nm v ws=[[123]]++(aF ws++[[125]])from rfl,aJ,aJ]at hl ⊢
 simp at hl;have e1:=gN (m:=m) [[123]] o nd (by omega) (by simp) (by omega);have e3:=gN (m:=m) [[125]] (o++av [[123]]++av (aF ws)) nd (by omega) (by simp) (by grind);simp only[List.map_cons,List.map_nil]at e1 e3;unfold aV;unfold bR;simp -implicitDefEqProofs only[show(No.mk 18 nm v ks).r.Kids=ks.map iE from rfl,e1,lζ];refine(wN nd ks ws hlen (by unfold bX;omega) hk0 _ ws m 0 (o++av [[123]]) rfl (by omega) (Nat.zero_le _) (by grind)).trans ?_;have hw:(cG.mk (Wb (o++av [[123]]++av (aF ws)) nd).bu (Wb (o++av [[123]]++av (aF ws)) nd).ns (Wb (o++av [[123]]++av (aF ws)) nd).ou)=Wb (o++av [[123]]++av (aF ws)) nd:=rfl;simp -implicitDefEqProofs only[e3,cH,aL,ah,cF];simp
def aeB (nd:List No)(nm:LN)(v:Va)(ks:LI)(ws:Ws)(hlen:ws.length=ks.length)(hb:ks.length<100000)(hk0:KOk nd m ks ws)(hk4:∀m',m<=m'+3->KOk nd m' ks ws)(hm:ws.length+139<=m)(o:LN)(hl:o.length+(av (bW 14 nm v ws)).length<cm):aV (cE lay0.tab m) m (Wb o nd) (No.mk 14 nm v ks).r=some (.tup [],(Wb (o++av (bW 14 nm v ws)) nd).hp):=by
 rw[show bW 14 nm v ws=[[102,97,105,108]]++[[59]]from rfl,aJ]at hl ⊢
 simp at hl;have e1:=gN (m:=m) [[102,97,105,108]] o nd (by omega) (by simp) (by omega);simp at e1;unfold aV;unfold bR;simp -implicitDefEqProofs only[e1];exact Ct _ _ nd (by omega) (by grind) (by simp)
def aeC (nd:List No)(nm:LN)(v:Va)(ks:LI)(ws:Ws)(hlen:ws.length=ks.length)(hb:ks.length<100000)(hk0:KOk nd m ks ws)(hk4:∀m',m<=m'+3->KOk nd m' ks ws)(hm:ws.length+139<=m)(o:LN)(hl:o.length+(av (bW 15 nm v ws)).length<cm):aV (cE lay0.tab m) m (Wb o nd) (No.mk 15 nm v ks).r=some (.tup [],(Wb (o++av (bW 15 nm v ws)) nd).hp):=by
 rw[show bW 15 nm v ws=[[101,109,105,116]]++(bp ws++[[59]])from rfl,aJ,aJ]at hl ⊢
 simp at hl;have e1:=gN (m:=m) [[101,109,105,116]] o nd (by omega) (by simp) (by omega);have e2:=uO (o++av [[101,109,105,116]]) hlen hk4 (by omega) (by omega) (by grind);simp at e1;unfold aV;unfold bR;unfold dL;simp -implicitDefEqProofs only[show(No.mk 15 nm v ks).r.Op=15 from rfl,show(No.mk 15 nm v ks).r.Kids=ks.map iE from rfl,show ae .i64 (15 - 15)=0 from cz (by decide) (by decide),show[Da.str [101,109,105,116],Da.str [114,101,109,105,110,100],Da.str [99,97,110,99,101,108]][Int.toNat 0]?=some (Da.str [101,109,105,116])from rfl,bH,cV,e1,cF,e2]
 exact Ct _ _ nd (by omega) (by grind) (by simp)
def aeD (nd:List No)(nm:LN)(v:Va)(ks:LI)(ws:Ws)(hlen:ws.length=ks.length)(hb:ks.length<100000)(hk0:KOk nd m ks ws)(hk4:∀m',m<=m'+3->KOk nd m' ks ws)(hm:ws.length+139<=m)(o:LN)(hl:o.length+(av (bW 16 nm v ws)).length<cm):aV (cE lay0.tab m) m (Wb o nd) (No.mk 16 nm v ks).r=some (.tup [],(Wb (o++av (bW 16 nm v ws)) nd).hp):=by
 rw[show bW 16 nm v ws=[[114,101,109,105,110,100]]++(bp ws++[[59]])from rfl,aJ,aJ]at hl ⊢
 simp at hl;have e1:=gN (m:=m) [[114,101,109,105,110,100]] o nd (by omega) (by simp) (by omega);have e2:=uO (o++av [[114,101,109,105,110,100]]) hlen hk4 (by omega) (by omega) (by grind);simp at e1;unfold aV;unfold bR;unfold dL;simp -implicitDefEqProofs only[show(No.mk 16 nm v ks).r.Op=16 from rfl,show(No.mk 16 nm v ks).r.Kids=ks.map iE from rfl,show ae .i64 (16 - 15)=1 from cz (by decide) (by decide),show[Da.str [101,109,105,116],Da.str [114,101,109,105,110,100],Da.str [99,97,110,99,101,108]][Int.toNat 1]?=some (Da.str [114,101,109,105,110,100])from rfl,bH,cV,e1,cF,e2]
 exact Ct _ _ nd (by omega) (by grind) (by simp)
def aeE (nd:List No)(nm:LN)(v:Va)(ks:LI)(ws:Ws)(hlen:ws.length=ks.length)(hb:ks.length<100000)(hk0:KOk nd m ks ws)(hk4:∀m',m<=m'+3->KOk nd m' ks ws)(hm:ws.length+139<=m)(o:LN)(hl:o.length+(av (bW 17 nm v ws)).length<cm):aV (cE lay0.tab m) m (Wb o nd) (No.mk 17 nm v ks).r=some (.tup [],(Wb (o++av (bW 17 nm v ws)) nd).hp):=by
 rw[show bW 17 nm v ws=[[99,97,110,99,101,108]]++(bp ws++[[59]])from rfl,aJ,aJ]at hl ⊢
 simp at hl;have e1:=gN (m:=m) [[99,97,110,99,101,108]] o nd (by omega) (by simp) (by omega);have e2:=uO (o++av [[99,97,110,99,101,108]]) hlen hk4 (by omega) (by omega) (by grind);simp at e1;unfold aV;unfold bR;unfold dL;simp -implicitDefEqProofs only[show(No.mk 17 nm v ks).r.Op=17 from rfl,show(No.mk 17 nm v ks).r.Kids=ks.map iE from rfl,show ae .i64 (17 - 15)=2 from cz (by decide) (by decide),show[Da.str [101,109,105,116],Da.str [114,101,109,105,110,100],Da.str [99,97,110,99,101,108]][Int.toNat 2]?=some (Da.str [99,97,110,99,101,108])from rfl,bH,cV,e1,cF,e2]
 exact Ct _ _ nd (by omega) (by grind) (by simp)
variable {ops:LI}
def qI {op:Int}(h:fC op ops=true):op=1\/op=2\/op=3\/op=4\/op=5\/op=6\/op=7\/op=8\/op=9\/op=10\/op=11\/op=12\/op=13\/op=14\/op=15\/op=16\/op=17\/op=18:=by
 by_cases e:op=1\/op=2\/op=3\/op=4\/op=5\/op=6\/op=7\/op=8\/op=9\/op=10\/op=11\/op=12\/op=13\/op=14\/op=15\/op=16\/op=17\/op=18
 ·exact e
 ·have n:∀k:Int,(k=1\/k=2\/k=3\/k=4\/k=5\/k=6\/k=7\/k=8\/k=9\/k=10\/k=11\/k=12\/k=13\/k=14\/k=15\/k=16\/k=17\/k=18)->eqI op k=false:=fun k hk=>Ps (fun h=>e (h▸hk))
  unfold fC at h;simp_all
def arO (op:Int)(n:Nat):Prop:=(op=4\/op=8\/op=9\/op=10\/op=17->n=1)/\(op=5\/op=12\/op=15->n=2)/\(op=7->1<=n)/\(op=11->n=2\/n=3)/\n<=100000
def ä {op:Int}(h:fC op ops=true)(hb:ops.length<=100000):arO op ops.length:=by
 rcases qI h with rfl|rfl|rfl|rfl|rfl|rfl|rfl|rfl|rfl|rfl|rfl|rfl|rfl|rfl|rfl|rfl|rfl|rfl;case inr.inr.inr.inl=>
  rw[show fC 4 ops=(Nat.beq ops.length 1&&ops.all bo)from rfl,lγ,Nat.beq_eq]at h;exact⟨fun _=>h.1,fun e=>by omega,fun e=>by omega,fun e=>by omega,hb⟩
 case inr.inr.inr.inr.inl=>
  rw[show fC 5 ops=(Nat.beq ops.length 2&&ops.all bo)from rfl,lγ,Nat.beq_eq]at h;exact⟨fun e=>by omega,fun _=>h.1,fun e=>by omega,fun e=>by omega,hb⟩
 case inr.inr.inr.inr.inr.inr.inl=>
  rw[show fC 7 ops=((Nat.ble 1 ops.length&&Nat.ble ops.length 17)&&ops.all bo)from rfl,lγ,lγ,Nat.ble_eq]at h;exact⟨fun e=>by omega,fun e=>by omega,fun _=>h.1.1,fun e=>by omega,hb⟩
 case inr.inr.inr.inr.inr.inr.inr.inl=>
  rw[show fC 8 ops=(Nat.beq ops.length 1&&ops.all m8)from rfl,lγ,Nat.beq_eq]at h;exact⟨fun _=>h.1,fun e=>by omega,fun e=>by omega,fun e=>by omega,hb⟩
 case inr.inr.inr.inr.inr.inr.inr.inr.inl=>
  rw[show fC 9 ops=(Nat.beq ops.length 1&&ops.all m8)from rfl,lγ,Nat.beq_eq]at h;exact⟨fun _=>h.1,fun e=>by omega,fun e=>by omega,fun e=>by omega,hb⟩
 case inr.inr.inr.inr.inr.inr.inr.inr.inr.inl=>
  rw[show fC 10 ops=(Nat.beq ops.length 1&&ops.all pN)from rfl,lγ,Nat.beq_eq]at h;exact⟨fun _=>h.1,fun e=>by omega,fun e=>by omega,fun e=>by omega,hb⟩
 case inr.inr.inr.inr.inr.inr.inr.inr.inr.inr.inl=>
  rw[show fC 11 ops=((Nat.ble 2 ops.length&&Nat.ble ops.length 3)&&(bo (ops.headD 0)&&(ops.drop 1).all lb))from rfl,lγ,lγ,Nat.ble_eq,Nat.ble_eq]at h;exact⟨fun e=>by omega,fun e=>by omega,fun e=>by omega,fun _=>by omega,hb⟩
 case inr.inr.inr.inr.inr.inr.inr.inr.inr.inr.inr.inl=>
  rw[show fC 12 ops=(Nat.beq ops.length 2&&(bo (ops.headD 0)&&(ops.drop 1).all lb))from rfl,lγ,Nat.beq_eq]at h;exact⟨fun e=>by omega,fun _=>h.1,fun e=>by omega,fun e=>by omega,hb⟩
 case inr.inr.inr.inr.inr.inr.inr.inr.inr.inr.inr.inr.inr.inr.inl=>
  rw[show fC 15 ops=(Nat.beq ops.length 2&&ops.all bo)from rfl,lγ,Nat.beq_eq]at h;exact⟨fun e=>by omega,fun _=>h.1,fun e=>by omega,fun e=>by omega,hb⟩
 case inr.inr.inr.inr.inr.inr.inr.inr.inr.inr.inr.inr.inr.inr.inr.inr.inl=>
  rw[show fC 17 ops=(Nat.beq ops.length 1&&ops.all bo)from rfl,lγ,Nat.beq_eq]at h;exact⟨fun _=>h.1,fun e=>by omega,fun e=>by omega,fun e=>by omega,hb⟩
 all_goals exact⟨fun e=>by omega,fun e=>by omega,fun e=>by omega,fun e=>by omega,hb⟩
def abc (nd:List No)(op:Int)(nm:LN)(v:Va)(ks:LI)(ws:Ws)(hlen:ws.length=ks.length)(hb:ks.length<100000)(hk:∀m',m<=m'+5->KOk nd m' ks ws)(hr:8<=op/\op<=18)(ha:arO op ks.length)(h8:op=8->1<=v.k/\v.k<=5)(hm:ws.length+140<=m)(o:LN)(hl:o.length+(av (bW op nm v ws)).length<cm):Ω m 63 [.box 0 0,.p (No.mk op nm v ks).e] (Wb o nd).hp=some (.tup [],(Wb (o++av (bW op nm v ws)) nd).hp):=by
 replace hm:=aH hm;obtain⟨m,rfl,hm⟩:=hm;refine Dm m (Wb o nd) (No.mk op nm v ks).r _ ?_;have hk0:=hk m (by omega);have hk4:∀m',m<=m'+3->KOk nd m' ks ws:=fun m' h=>hk m' (by omega)
 obtain⟨a1,a2,a7,a11,-⟩:=ha;have e:op=8\/op=9\/op=10\/op=11\/op=12\/op=13\/op=14\/op=15\/op=16\/op=17\/op=18:=by omega
 rcases e with rfl|rfl|rfl|rfl|rfl|rfl|rfl|rfl|rfl|rfl|rfl
 ·exact afG nd nm v ks ws hlen hb hk0 hk4 (a1 (by simp)) (h8 rfl) (by omega) o hl
 ·exact afH nd nm v ks ws hlen hb hk0 hk4 (a1 (by simp)) (by omega) o hl
 ·exact aey nd nm v ks ws hlen hb hk0 hk4 (a1 (by simp)) (by omega) o hl
 ·rcases a11 rfl with h|h
  ·exact adf nd nm v ks ws hlen hb hk0 hk4 h (by omega) o hl
  ·exact adg nd nm v ks ws hlen hb hk0 hk4 h (by omega) o hl
 ·exact aez nd nm v ks ws hlen hb hk0 hk4 (a2 (by simp)) (by omega) o hl
 ·exact aeA nd nm v ks ws hlen hb hk0 hk4 (by omega) o hl
 ·exact aeB nd nm v ks ws hlen hb hk0 hk4 (by omega) o hl
 ·exact aeC nd nm v ks ws hlen hb hk0 hk4 (by omega) o hl
 ·exact aeD nd nm v ks ws hlen hb hk0 hk4 (by omega) o hl
 ·exact aeE nd nm v ks ws hlen hb hk0 hk4 (by omega) o hl
 ·exact aeF nd nm v ks ws hlen hb hk0 hk4 (by omega) o hl
def ř (nd:List No)(op:Int)(nm:LN)(v:Va)(ks:LI)(ws:Ws)(i:Nat)(hx:nd[i]?=some ⟨op,nm,v,ks⟩)(hlen:ws.length=ks.length)(hb:ks.length<100000)(hk:∀m',m<=m'+6->KOk nd m' ks ws)(hr:1<=op/\op<=18)(ha:arO op ks.length)(h1:op=1->nh v)(h8:op=8->1<=v.k/\v.k<=5)(hm:ws.length+150<=m)(o:LN)(hl:o.length+(av (bW op nm v ws)).length<cm):Ω m 27 [.box 0 0,pI (i:Int)] (Wb o nd).hp=some (.tup [],(Wb (o++av (bW op nm v ws)) nd).hp):=by
 replace hm:=aH hm;obtain⟨m,rfl,hm⟩:=hm;refine ű m (Wb o nd) (i:Int) _ ?_;unfold Ri;have hat:cp (Wb o nd).ns (i:Int)=some (No.mk op nm v ks).e:=by
  show cp (nd.map No.e) (i:Int)=_;rw[bg,la,hx];rfl
 have ro:(No.mk op nm v ks).r.Op=op:=rfl;have rn:(No.mk op nm v ks).r.Name=nm:=rfl;have rk:(No.mk op nm v ks).r.Kids=ks.map iE:=rfl;have rs:(No.mk op nm v ks).r.Value_S=v.s:=rfl;have rz:(No.mk op nm v ks).r.e=(No.mk op nm v ks).e:=rfl;have hk0:=hk m (by omega);have hk4:∀m',m<=m'+3->KOk nd m' ks ws:=fun m' h=>hk m' (by omega)
 obtain⟨a1,a2,a7,a11,-⟩:=id ha;simp -implicitDefEqProofs only[hat,bH,Vb,ro];by_cases hs:8<=op
 ·have e:=evC_known (abc (m:=m) nd op nm v ks ws hlen hb (fun m' h=>hk m' (by omega)) ⟨hs,hr.2⟩ ha h8 (by omega) o hl);simp -implicitDefEqProofs only[Ps (show ¬op=1 by omega),Ps (show ¬op=2 by omega),Ps (show ¬op=3 by omega),Ps (show ¬op=4 by omega),Ps (show ¬op=5 by omega),Ps (show ¬op=6 by omega),Ps (show ¬op=7 by omega),aG,rz,e,ek,aL,ah,cF]
 ·have e:op=1\/op=2\/op=3\/op=4\/op=5\/op=6\/op=7:=by omega
  rcases e with rfl|rfl|rfl|rfl|rfl|rfl|rfl
  ·have e:=evC_known (xv (m:=m) v (h1 rfl) o nd (by omega) hl);simp -implicitDefEqProofs only[show eqI 1 1=true from rfl,az];refine(e _).trans ?_;rfl
  ·rw[show bW 2 nm v ws=[nm]from rfl]at hl ⊢
   have e:=gN (m:=m) [nm] o nd (by omega) (by simp) hl;simp at e;simp -implicitDefEqProofs only[show eqI 2 1=false from rfl,show eqI 2 2=true from rfl,az,aG,rn,e,aL,ah,cF]
  ·rw[show bW 3 nm v ws=[[115,101,108,102]]from rfl]at hl ⊢
   have e:=gN (m:=m) [[115,101,108,102]] o nd (by omega) (by simp) hl;simp at e;simp -implicitDefEqProofs only[show eqI 3 1=false from rfl,show eqI 3 2=false from rfl,show eqI 3 3=true from rfl,az,aG,e,ek,aL,ah,cF]
  ·obtain⟨w,rfl⟩:=len1 (l:=ws) (by omega);obtain⟨k,rfl⟩:=len1 (l:=ks) (a1 (by simp));rw[show bW 4 nm v [w]=[[40],nm]++(w++[[41]])from rfl,aJ,aJ]at hl ⊢
   simp at hl;have e1:=gN (m:=m) [[40],nm] o nd (by omega) (by simp) (by omega);have e2:=ã hk0 (o++av [[40],nm]) (by grind);have e3:=gN (m:=m) [[41]] (o++av [[40],nm]++av w) nd (by omega) (by simp) (by grind);simp only[List.map_cons,List.map_nil]at e1 e3;simp -implicitDefEqProofs only[show eqI 4 1=false from rfl,show eqI 4 2=false from rfl,show eqI 4 3=false from rfl,show eqI 4 4=true from rfl,az,aG,rn,rk,e1,aL,ah,cF,List.map_cons,List.map_nil,show cp [iE k] 0=some (iE k)from rfl,bH,q0,dI,e2,e3,ek];simp
  ·obtain⟨w0,w1,rfl⟩:=VS (l:=ws) (by omega);obtain⟨k0,k1,rfl⟩:=VS (l:=ks) (a2 (by simp));rw[show bW 5 nm v [w0,w1]=[[40]]++(w0++([nm]++(w1++[[41]])))from rfl,aJ,aJ,aJ,aJ]at hl ⊢
   simp at hl;have e1:=gN (m:=m) [[40]] o nd (by omega) (by simp) (by omega);have e2:=ã hk0 (o++av [[40]]) (by grind);have e3:=gN (m:=m) [nm] (o++av [[40]]++av w0) nd (by omega) (by simp) (by grind);have e4:=g_ hk0 (o++av [[40]]++av w0++av [nm]) (by grind);have e5:=gN (m:=m) [[41]] (o++av [[40]]++av w0++av [nm]++av w1) nd (by omega) (by simp) (by grind);simp only[List.map_cons,List.map_nil]at e1 e3 e5;simp -implicitDefEqProofs only[show eqI 5 1=false from rfl,show eqI 5 2=false from rfl,show eqI 5 3=false from rfl,show eqI 5 4=false from rfl,show eqI 5 5=true from rfl,az,aG,rn,rk,e1,aL,ah,cF,List.map_cons,List.map_nil,show cp [iE k0,iE k1] 0=some (iE k0)from rfl,show cp [iE k0,iE k1] 1=some (iE k1)from rfl,bH,q0,dI,e2,e3,e4,e5,ek];simp
  ·rw[show bW 6 nm v ws=[nm]++bp ws from rfl,aJ]at hl ⊢
   simp at hl;have e1:=gN (m:=m) [nm] o nd (by omega) (by simp) (by omega);have e2:=uO (o++av [nm]) hlen hk4 (by omega) (by omega) (by grind);simp at e1;simp -implicitDefEqProofs only[show eqI 6 1=false from rfl,show eqI 6 2=false from rfl,show eqI 6 3=false from rfl,show eqI 6 4=false from rfl,show eqI 6 5=false from rfl,show eqI 6 6=true from rfl,az,aG,rn,rk,e1,aL,ah,cF,e2,ek];simp
  ·rw[show bW 7 nm v ws=[[99,97,108,108],nm]++(bp (ws.take 1)++([[46],v.s]++bp (ws.drop 1)))from rfl,aJ,aJ,aJ]at hl ⊢
   simp only[lα]at hl;have e1:=gN (m:=m) [[99,97,108,108],nm] o nd (by omega) (by simp) (by omega);have e2:=uO (o++av [[99,97,108,108],nm]) (ks:=ks.take 1) (ws:=ws.take 1) (by simp_all) (fun m' h=>(hk4 m' h).take 1) (by grind) (by simp_all) (by grind);have e3:=gN (m:=m) [[46],v.s] (o++av [[99,97,108,108],nm]++av (bp (ws.take 1))) nd (by omega) (by simp) (by grind);have e4:=uO (o++av [[99,97,108,108],nm]++av (bp (ws.take 1))++av [[46],v.s]) (ks:=ks.drop 1) (ws:=ws.drop 1) (by simp_all) (fun m' h=>(hk4 m' h).drop 1) (by grind) (by grind) (by grind);simp only[List.map_cons,List.map_nil]at e1 e3;have t1:List.take (Int.toNat 1 - 0) (List.drop 0 (ks.map iE))=(ks.take 1).map iE:=by simp
   have t2:List.take ((ks.map iE).length - Int.toNat 1) (List.drop (Int.toNat 1) (ks.map iE))=(ks.drop 1).map iE:=by
    rw[List.map_drop,mβ (by simp)];rfl
   have t3:aS 1 ((ks.map iE).length:Int)=true:=ji (by grind);simp -implicitDefEqProofs only[show eqI 7 1=false from rfl,show eqI 7 2=false from rfl,show eqI 7 3=false from rfl,show eqI 7 4=false from rfl,show eqI 7 5=false from rfl,show eqI 7 6=false from rfl,show eqI 7 7=true from rfl,az,aG,rn,rk,rs,e1,aL,ah,cF,t1,t2,t3,e2,e3,e4,ek];simp
mutual
def Tr.w:Tr->List LN
 | .n op nm v ks=>bW op nm v (wL ks)
def wL:List Tr->Ws
 |[]=>[]
 |t::r=>t.w::wL r
end
def CO:∀l:List Tr,(wL l).length=l.length
 |[]=>rfl
 |t::r=>by simp only[wL,List.length_cons,CO r]
def Ir:∀l:List Tr,l.length<=eR l
 |[]=>Nat.zero_le _
 |t::r=>by
  have:=xl t;have:=Ir r;simp only[eR,List.length_cons];omega
mutual
def iD (P:No->Prop):Tr->Prop
 | .n op nm v ks=>P ⟨op,nm,v,[]⟩/\oa P ks
def oa (P:No->Prop):List Tr->Prop
 |[]=>True
 |t::r=>iD P t/\oa P r
end
def Rz (x:No):Prop:=(x.op=1->nh x.v)/\(x.op=8->1<=x.v.k/\x.v.k<=5)
mutual
def Gb {P:No->Prop}(hP:∀op nm v a b,P ⟨op,nm,v,a⟩->P ⟨op,nm,v,b⟩){ns:List No}(h:∀x∈ns,P x):∀(t:Tr) (b:Nat),DI ns t b->iD P t
 | .n op nm v ks,b,ha=>by
  simp only[DI]at ha;simp only[iD];exact⟨hP _ _ _ _ _ (h _ (mθ ha.2)),RE hP h ks b ha.1⟩
def RE {P:No->Prop}(hP:∀op nm v a b,P ⟨op,nm,v,a⟩->P ⟨op,nm,v,b⟩){ns:List No}(h:∀x∈ns,P x):∀(l:List Tr) (b:Nat),CW ns l b->oa P l
 |[],b,ha=>by simp only[oa]
 |t::r,b,ha=>by
  simp only[CW]at ha;simp only[oa];exact⟨Gb hP h t b ha.1,RE hP h r _ ha.2⟩
end
mutual
def Xf (nd:List No):∀(t:Tr) (b m:Nat),DI nd t b->Wf t->iD Rz t->t.sz<=100000->7*t.sz+200<=m->∀o:LN,o.length+(av t.w).length<cm->
  Ω m 27 [.box 0 0,pI ((b+t.sz - 1:Nat):Int)] (Wb o nd).hp=some (.tup [],(Wb (o++av t.w) nd).hp)
 | .n op nm v ks,b,m,ha,hw,hv,hs,hm,o,hl=>by
  simp only[DI]at ha;simp only[Wf]at hw;simp only[iD]at hv;simp only[Tr.sz]at hs hm ⊢
  simp only[Tr.w]at hl ⊢
  have hsl:=Ir ks;have har:arO op ks.length:=by
   have:=ä hw.1 (by rw[lζ];omega);rwa [lζ]at this
  have hr:1<=op/\op<=18:=by rcases qI hw.1 with rfl|rfl|rfl|rfl|rfl|rfl|rfl|rfl|rfl|rfl|rfl|rfl|rfl|rfl|rfl|rfl|rfl|rfl<;>decide
  have e:=ř (m:=m) nd op nm v (eJ b ks) (wL ks) (b+eR ks) ha.2 (by rw[CO,oZ]) (by rw[oZ];omega) (fun m' h=>Q3 nd ks b m' ha.1 hw.2.2 hv.2 (by omega) (by omega)) hr (by rw[oZ];exact har) hv.1.1 hv.1.2 (by rw[CO];omega) o hl;rw[show b+(eR ks+1) - 1=b+eR ks by omega];exact e
def Q3 (nd:List No):∀(l:List Tr) (b m:Nat),CW nd l b->Ec l->oa Rz l->eR l<=100000->7*eR l+200<=m->KOk nd m (eJ b l) (wL l)
 |[],b,m,ha,hw,hv,hs,hm=>fun j h=>by simp[eJ]at h
 |t::r,b,m,ha,hw,hv,hs,hm=>by
  simp only[CW]at ha;simp only[Ec]at hw;simp only[oa]at hv;simp only[eR]at hs hm;intro j h h' o ho;cases j with
  |zero=>exact Xf nd t b m ha.1 hw.1 hv.1 (by omega) (by omega) o ho
  |succ j=>exact Q3 nd r (b+t.sz) m ha.2 hw.2 hv.2 (by omega) (by omega) j (by simpa[eJ]using h) (by simpa[wL]using h') o ho
end
structure rK (v:Va):Prop where
 n: -9223372036854775808<=v.n/\v.n<=9223372036854775807
 s:By v.s
 I:∀i∈v.I,-9223372036854775808<=i/\i<=9223372036854775807
 L:∀t∈v.L,By t
def ry {v:Va}(h:kE v=true):(v.s.length<=64/\v.I.length<=16/\v.L.length<=16/\∀t∈v.L,t.length<=64)/\(0<=v.k/\v.k<=5)/\(v.n=0\/v.k=1\/(v.k=2/\v.n=1))/\(v.s=[]\/v.k=3)/\(v.I=[]\/v.k=4)/\(v.L=[]\/v.k=5):=by
 unfold kE Ei Ej RI xI fG at h;simp only[lγ,Bool.not_eq_true',qβ,Bool.and_eq_false_iff,Bool.not_eq_false',cZ,bO,ec,lρ,lδ,lσ,mκ]at h;obtain⟨⟨h1,h2⟩,h3,⟨h4,h5,h6⟩,⟨h7,h8,h9⟩,h10⟩:=h;refine⟨⟨by omega,by omega,by omega,fun t ht=>by have:=h10 t ht;omega⟩,⟨by omega,by omega⟩,?_,?_,?_,?_⟩
 ·omega
 ·rcases h4 with h|h
  ·exact .inl h
  ·exact .inr h
 ·rcases h5 with h|h
  ·left;cases hI:v.I with
   |nil=>rfl
   |cons a l=>rw[hI]at h;simp only[List.length_cons]at h;omega
  ·exact .inr h
 ·rcases h6 with h|h
  ·left;cases hI:v.L with
   |nil=>rfl
   |cons a l=>rw[hI]at h;simp only[List.length_cons]at h;omega
  ·exact .inr h
def Zt {v:Va}(hd:rK v)(hv:kE v=true)(hn:v.n≠ -9223372036854775808)(hI:∀i∈v.I,i≠ -9223372036854775808):nh v:=by
 obtain⟨⟨a1,a2,a3,a4⟩,⟨b1,b2⟩,c1,c2,c3,c4⟩:=ry hv;refine⟨by have:=hd.n;omega,fun hk=>by omega,⟨hd.s,a1⟩,⟨a2,fun i hi=>?_⟩,⟨a3,fun t ht=>⟨hd.L t ht,a4 t ht⟩⟩⟩
 have:=hd.I i hi;have:=hI i hi;omega
def adq {x:No}(hd:rK x.v)(hc:dt x=true):Rz x:=by
 refine⟨fun h1=>?_,fun h8=>?_⟩
 ·have hc1:xL x=true:=by
   unfold dt at hc;rw[h1]at hc;exact hc
  unfold xL at hc1;cases e1:bv x.name []with
  |false=>rw[e1]at hc1;cases hc1
  |true=>
   rw[e1,cond_true]at hc1;cases e2:kE x.v with
   |false=>rw[e2]at hc1;cases hc1
   |true=>
    rw[e2,cond_true]at hc1;obtain⟨-,-,c1,c2,c3,c4⟩:=ry e2;have hk:(x.v.k=1/\0<=x.v.n)\/x.v.k=2\/x.v.k=3:=by
     cases e3:eqI x.v.k 1<;>cases e4:aS 0 x.v.n<;>cases e5:eqI x.v.k 2<;>cases e6:eqI x.v.k 3<;>rw[e3]at hc1<;>simp only[cond_true,cond_false,e4,e5,e6]at hc1<;>simp only[bO,cn,lδ,lρ]at e3 e4 e5 e6<;>first|(exact absurd hc1 (by decide))|omega
    exact Zt hd e2 (by omega) (fun i hi=>by
     rcases c3 with h|h
     ·rw[h]at hi;cases hi
     ·omega)
 ·unfold dt RS at hc;rw[h8]at hc;have hc:(bif bw x.name then bif eI x.v.k then dC x.v ⟨x.v.k,0,[],[],[]⟩else false else false)=true:=hc;cases e1:bw x.name with
  |false=>rw[e1]at hc;cases hc
  |true=>
   rw[e1,cond_true]at hc;cases e2:eI x.v.k with
   |false=>rw[e2]at hc;cases hc
   |true=>
    unfold eI at e2;simp only[lγ,cn,lδ]at e2;exact e2
section
abbrev sy (w:LN):Tk:=⟨5,w,0,0⟩
abbrev kw (w:LN):Tk:=⟨2,w,0,0⟩
abbrev na (w:LN):Tk:=⟨1,w,0,0⟩
structure Sm (s s':PS)(d:Int):Prop where
 ne:s'.ne=s.ne+d
 nd:s'.nd=s.nd
 tt:s'.tt=s.tt
variable {s':PS}
def kx {s:PS}{t:Tk}{R:List Tk}{u:Unit}(h:Nx s (t::R))(e:pUp s=some (u,s')):Nx s' R/\Sm s s' 0:=by
 obtain⟨-,e⟩:=bb e;injection e with _ e;subst e;exact⟨h.up,(Int.add_zero _).symm,rfl,rfl⟩
variable {x:LN}
def ez {s:PS}{t:Tk}{R:List Tk}{u:Unit}(h:Nx s (t::R))(hi:eB t x=true)(e:gE x s=some (u,s')):Nx s' R/\Sm s s' 0:=by
 obtain⟨rfl,h'⟩:=h.exp hi e;exact⟨h',(Int.add_zero _).symm,rfl,rfl⟩
def oT {s:PS}{t:Tk}{R:List Tk}{u:Unit}(h:Nx s (t::R))(hi:eB t x=true)(h0:0<=s.ne)(h24:s.ne<24)(e:nL x s=some (u,s')):Nx s' R/\Sm s s' 1:=by
 obtain⟨-,e⟩:=bb e;injection e with _ e;have hx:s.is x=true:=by rw[h.isA];exact hi
 unfold PS.open PS.opn1 PS.exp at e;simp only[hx,Ps (show ¬s.ne=24 by omega),Bool.and_false,cond_false,cond_true]at e;subst e;have hu:=h.up;exact⟨⟨hu.ok,hu.tk,hu.ps⟩,cz (by show _<=s.ne+1;omega) (by show s.ne+1<_;omega),rfl,rfl⟩
def mb {s:PS}{t:Tk}{R:List Tk}{u:Unit}(h:Nx s (t::R))(hi:eB t x=true)(h0:0<=s.ne)(h24:s.ne<=24)(e:jI x s=some (u,s')):Nx s' R/\Sm s s' (-1):=by
 obtain⟨-,e⟩:=bb e;injection e with _ e;have hx:s.is x=true:=by rw[h.isA];exact hi
 unfold PS.close PS.exp at e;simp only[hx,cond_true]at e;subst e;have hu:=h.up;exact⟨⟨hu.ok,hu.tk,hu.ps⟩,(cz (by show _<=s.ne - 1;omega) (by show s.ne - 1<_;omega)).trans (Int.sub_eq_add_neg),rfl,rfl⟩
def Hw {s:PS}{t t':Tk}{R:List Tk}(h:Nx s (t::R))(hp:bc t=true)(e:pPeek s=some (t',s')):s'=s/\t'.k=t.k/\t'.s=t.s/\t'.n=t.n:=by
 obtain⟨-,e⟩:=bb e;injection e with e1 e2;subst e1;exact⟨e2.symm,h.k hp⟩
def acU {s:PS}{R:List Tk}{u:Unit}(h:Nx s R)(h0:0<=s.ne)(h24:s.ne<=24)(e:pDec s=some (u,s')):Nx s' R/\Sm s s' (-1):=by
 injection e with e;injection e with _ e;subst e;exact⟨⟨h.ok,h.tk,h.ps⟩,(cz (by omega) (by omega)).trans (Int.sub_eq_add_neg),rfl,rfl⟩
structure xF (s u:PS)(l:List No)(R:List Tk):Prop where
 nx:Nx u R
 ne:u.ne=s.ne
 nd:u.nd=s.nd++l
 tt:u.tt=s.tt
def gu {s u:PS}{x:No}{v:Int}{R:List Tk}(h:Nx s R)(e:eb x s=some (v,u)):v=(s.nd.length:Int)/\xF s u [x] R:=by
 obtain⟨h1,h2,h3⟩:=ą h e;subst h2;exact⟨h1,h3,rfl,rfl,rfl⟩
def jJ {w:LN}(h:bw w=true):bc (na w)=true:=h
def RH {s:PS}{t t1:Tk}{R:List Tk}(h:Nx s (t::t1::R))(hp:bc t1=true):s.appl=(eqI t1.k 5&&bv t1.s [40]):=by
 obtain⟨a1,a2,_⟩:=za (t:=s.peek 1) (u:=t1) (by rw[h.pk1 hp];have:=h.pk1 hp;rw[<-this];rfl);unfold PS.appl;rw[a1,a2]
def ma {w:LN}(h:bw w=true)(x:LN):eB (na w) x=false:=by
 unfold eB;simp only[show eqI (1:Int) 2=false from rfl,show eqI (1:Int) 5=false from rfl,Bool.or_self,Bool.false_and,Bool.and_false]
variable {ex:PM Int} {q:Nat} {s u:PS} {v:Int} {R:List Tk}
def ė {t1:Tk}(hn:bw nm=true)(h:Nx s (na nm::t1::R))(hp:bc t1=true)(ht:(eqI t1.k 5&&bv t1.s [40])=false)(e:fD ex q s=some (v,u)):v=(s.nd.length:Int)/\xF s u [⟨2,nm,vz,[]⟩] (t1::R):=by
 have hk:=h.k (jJ hn);obtain⟨-,e⟩:=aD e;rcases e with⟨-,e⟩|⟨k,-⟩;case inr=>rw[hk.1,RH h hp,ht]at k;cases k
 obtain⟨t,s1,e1,e⟩:=aa e;obtain⟨hs1,-,hs,-⟩:=Hw h (jJ hn) e1;rw[hs1]at e;obtain⟨_,s2,e2,e⟩:=aa e;obtain⟨h2,hm⟩:=kx h e2;rw[hs]at e;obtain⟨rfl,f⟩:=gu h2 e;rw[hm.nd];exact⟨rfl,f.nx,by rw[f.ne,hm.ne,Int.add_zero],by rw[f.nd,hm.nd],f.tt.trans hm.tt⟩
def ĕ {w:LN}{n:Int}(hn:0<=n)(h:Nx s (⟨3,w,n,0⟩::R))(e:fD ex q s=some (v,u)):v=(s.nd.length:Int)/\xF s u [⟨1,[],vI n,[]⟩] R:=by
 have hp:bc ⟨3,w,n,0⟩=true:=ji hn;have hk:=(h.k hp).1;have hx:=h.is hp;have no:∀x,eB ⟨3,w,n,0⟩ x=false:=fun x=>by
  unfold eB;simp only[show eqI (3:Int) 2=false from rfl,show eqI (3:Int) 5=false from rfl,Bool.or_self,Bool.false_and,Bool.and_false]
 obtain⟨-,e⟩:=aD e;rcases e with⟨k,-⟩|⟨-,e⟩;case inl=>rw[hk]at k;cases k
 obtain⟨-,e⟩:=aD e;rcases e with⟨k,-⟩|⟨-,e⟩;case inl=>rw[hk,hx,hx,no,no]at k;cases k
 obtain⟨-,e⟩:=aD e;rcases e with⟨-,e⟩|⟨k,-⟩;case inr=>rw[hk]at k;cases k
 obtain⟨t,s1,e1,e⟩:=aa e;obtain⟨hs1,-,-,hnn⟩:=Hw h hp e1;rw[hs1]at e;obtain⟨_,s2,e2,e⟩:=aa e;obtain⟨h2,hm⟩:=kx h e2;rw[hnn]at e;obtain⟨rfl,f⟩:=gu h2 e;rw[hm.nd];exact⟨rfl,f.nx,by rw[f.ne,hm.ne,Int.add_zero],by rw[f.nd,hm.nd],f.tt.trans hm.tt⟩
def Ė {w:LN}(hn:w.length<=64)(h:Nx s (⟨4,w,0,0⟩::R))(e:fD ex q s=some (v,u)):v=(s.nd.length:Int)/\xF s u [⟨1,[],⟨3,0,w,[],[]⟩,[]⟩] R:=by
 have hp:bc ⟨4,w,0,0⟩=true:=ji (show(w.length:Int)<=64 by omega);have hk:=(h.k hp);have hx:=h.is hp;have no:∀x,eB ⟨4,w,0,0⟩ x=false:=fun x=>by
  unfold eB;simp only[show eqI (4:Int) 2=false from rfl,show eqI (4:Int) 5=false from rfl,Bool.or_self,Bool.false_and,Bool.and_false]
 obtain⟨-,e⟩:=aD e;rcases e with⟨k,-⟩|⟨-,e⟩;case inl=>rw[hk.1]at k;cases k
 obtain⟨-,e⟩:=aD e;rcases e with⟨k,-⟩|⟨-,e⟩;case inl=>rw[hk.1,hx,hx,no,no]at k;cases k
 obtain⟨-,e⟩:=aD e;rcases e with⟨k,-⟩|⟨-,e⟩;case inl=>rw[hk.1]at k;cases k
 obtain⟨-,e⟩:=aD e;rcases e with⟨-,e⟩|⟨k,-⟩;case inr=>rw[hk.1]at k;cases k
 obtain⟨c,s1,e1,e⟩:=aa e;obtain⟨-,e1⟩:=aD e1;rcases e1 with⟨-,e1⟩|⟨k,-⟩;case inr=>rw[hk.1]at k;cases k
 obtain⟨-,e1⟩:=bb e1;injection e1 with e1 e2;subst e1 e2;rw[hk.2.1]at e;obtain⟨rfl,f⟩:=gu h.up e;exact⟨rfl,f.nx,f.ne,f.nd,f.tt⟩
def Wo {b:Bool}(h:Nx s (kw (bif b then[116,114,117,101]else[102,97,108,115,101])::R))(e:fD ex q s=some (v,u)):v=(s.nd.length:Int)/\xF s u [⟨1,[],⟨2,bif b then 1 else 0,[],[],[]⟩,[]⟩] R:=by
 have hp:bc (kw (bif b then[116,114,117,101]else[102,97,108,115,101]))=true:=by cases b<;>kernel_rfl
 have hk:=(h.k hp);have hx:=h.is hp;have w1:eB (kw (bif b then[116,114,117,101]else[102,97,108,115,101])) [105,110,116,115]=false:=by cases b<;>kernel_rfl
 have w2:eB (kw (bif b then[116,114,117,101]else[102,97,108,115,101])) [115,116,114,105,110,103,115]=false:=by cases b<;>kernel_rfl
 have w3:eB (kw (bif b then[116,114,117,101]else[102,97,108,115,101])) [116,114,117,101]=b:=by cases b<;>kernel_rfl
 have w4:eB (kw (bif b then[116,114,117,101]else[102,97,108,115,101])) [102,97,108,115,101]=!b:=by cases b<;>kernel_rfl
 obtain⟨-,e⟩:=aD e;rcases e with⟨k,-⟩|⟨-,e⟩;case inl=>rw[hk.1]at k;cases k
 obtain⟨-,e⟩:=aD e;rcases e with⟨k,-⟩|⟨-,e⟩;case inl=>rw[hk.1,hx,hx,w1,w2]at k;cases k
 obtain⟨-,e⟩:=aD e;rcases e with⟨k,-⟩|⟨-,e⟩;case inl=>rw[hk.1]at k;cases k
 obtain⟨-,e⟩:=aD e;rcases e with⟨-,e⟩|⟨k,-⟩;case inr=>simp_all
 obtain⟨c,s1,e1,e⟩:=aa e;obtain⟨-,e1⟩:=aD e1;rcases e1 with⟨k,-⟩|⟨-,e1⟩;case inl=>rw[hk.1]at k;cases k
 cases b with
 |true=>
  obtain⟨-,e1⟩:=aD e1;rcases e1 with⟨-,e1⟩|⟨k,-⟩;case inr=>simp_all
  obtain⟨-,e1⟩:=bb e1;injection e1 with e1 e2;subst e1 e2;obtain⟨rfl,f⟩:=gu h.up e;exact⟨rfl,f.nx,f.ne,f.nd,f.tt⟩
 |false=>
  obtain⟨-,e1⟩:=aD e1;rcases e1 with⟨k,-⟩|⟨-,e1⟩;case inl=>simp_all
  obtain⟨-,e1⟩:=aD e1;rcases e1 with⟨-,e1⟩|⟨k,-⟩;case inr=>simp_all
  obtain⟨-,e1⟩:=bb e1;injection e1 with e1 e2;subst e1 e2;obtain⟨rfl,f⟩:=gu h.up e;exact⟨rfl,f.nx,f.ne,f.nd,f.tt⟩
def Wp (h:Nx s (kw [115,101,108,102]::R))(e:fD ex q s=some (v,u)):v=(s.nd.length:Int)/\xF s u [⟨3,[],vz,[]⟩] R:=by
 have hp:bc (kw [115,101,108,102])=true:=by rfl
 have hk:=(h.k hp);have hx:=h.is hp;obtain⟨-,e⟩:=aD e;rcases e with⟨k,-⟩|⟨-,e⟩;case inl=>rw[hk.1]at k;cases k
 obtain⟨-,e⟩:=aD e;rcases e with⟨k,-⟩|⟨-,e⟩;case inl=>rw[hk.1,hx,hx,show eB (kw [115,101,108,102]) [105,110,116,115]=false by rfl,show eB (kw [115,101,108,102]) [115,116,114,105,110,103,115]=false by rfl]at k;cases k
 obtain⟨-,e⟩:=aD e;rcases e with⟨k,-⟩|⟨-,e⟩;case inl=>rw[hk.1]at k;cases k
 obtain⟨-,e⟩:=aD e;rcases e with⟨k,-⟩|⟨-,e⟩;case inl=>rw[hk.1,hx,hx,show eB (kw [115,101,108,102]) [116,114,117,101]=false by rfl,show eB (kw [115,101,108,102]) [102,97,108,115,101]=false by rfl]at k;cases k
 obtain⟨-,e⟩:=aD e;rcases e with⟨-,e⟩|⟨k,-⟩;case inr=>rw[hx,show eB (kw [115,101,108,102]) [115,101,108,102]=true by rfl]at k;cases k
 obtain⟨_,s2,e2,e⟩:=aa e;obtain⟨h2,hm⟩:=kx h e2;obtain⟨rfl,f⟩:=gu h2 e;rw[hm.nd];exact⟨rfl,f.nx,by rw[f.ne,hm.ne,Int.add_zero],by rw[f.nd,hm.nd],f.tt.trans hm.tt⟩
def Ĕ {t0:Tk}(ht:(t0.k=1/\bw t0.s=true)\/t0=kw [105,110,116,115]\/t0=kw [115,116,114,105,110,103,115])(h:Nx s (t0::sy [40]::R))(e:fD ex q s=some (v,u)):∃(l:LI) (w s1:PS),Nx s1 (sy [40]::R)/\Sm s s1 0/\sa ex q s1=some (l,w)/\eb ⟨6,t0.s,vz,l⟩ w=some (v,u):=by
 have hp:bc t0=true:=by
  rcases ht with⟨h1,h2⟩|rfl|rfl
  ·unfold bc;rw[h1];exact h2
  ·kernel_rfl
  ·kernel_rfl
 have hk:=(h.k hp);have hx:=h.is hp;have ha:s.appl=true:=by rw[RH h (by kernel_rfl)];kernel_rfl
 unfold fD at e;obtain⟨-,e⟩:=aD e;rcases e with⟨k,-⟩|⟨-,e⟩;case inl=>rw[ha,Bool.not_true,Bool.and_false]at k;cases k
 obtain⟨-,e⟩:=aD e;rcases e with⟨-,e⟩|⟨k,-⟩;case inr=>
  exfalso;rw[hk.1,hx,hx]at k;rcases ht with⟨h1,-⟩|rfl|rfl
  ·rw[h1]at k;cases k
  ·rw[show eB (kw [105,110,116,115]) [105,110,116,115]=true by kernel_rfl]at k;cases k
  ·rw[show eB (kw [115,116,114,105,110,103,115]) [115,116,114,105,110,103,115]=true by kernel_rfl,show eB (kw [115,116,114,105,110,103,115]) [105,110,116,115]=false by kernel_rfl]at k;cases k
 obtain⟨t,s1,e1,e⟩:=aa e;obtain⟨hs1,-,hs,-⟩:=Hw h hp e1;rw[hs1]at e;obtain⟨_,s2,e2,e⟩:=aa e;obtain⟨h2,hm⟩:=kx h e2;rw[hs]at e;obtain⟨l,w,e3,e⟩:=aa e;exact⟨l,w,s2,h2,hm,e3,e⟩
def MT (h:Nx s (sy [40]::R))(h0:0<=s.ne)(h24:s.ne<24)(e:fD ex q s=some (v,u)):∃(s1 w:PS),Nx s1 R/\Sm s s1 1/\ex s1=some (v,w)/\jI [41] w=some ((),u):=by
 have hp:bc (sy [40])=true:=by kernel_rfl
 have a1:=(h.k hp).1;have hx:=h.is hp;unfold fD at e;obtain⟨-,e⟩:=aD e;rcases e with⟨k,-⟩|⟨-,e⟩;case inl=>rw[a1]at k;cases k
 obtain⟨-,e⟩:=aD e;rcases e with⟨k,-⟩|⟨-,e⟩;case inl=>rw[a1,hx,hx,show eB (sy [40]) [105,110,116,115]=false by kernel_rfl,show eB (sy [40]) [115,116,114,105,110,103,115]=false by kernel_rfl]at k;cases k
 obtain⟨-,e⟩:=aD e;rcases e with⟨k,-⟩|⟨-,e⟩;case inl=>rw[a1]at k;cases k
 obtain⟨-,e⟩:=aD e;rcases e with⟨k,-⟩|⟨-,e⟩;case inl=>rw[a1,hx,hx,show eB (sy [40]) [116,114,117,101]=false by kernel_rfl,show eB (sy [40]) [102,97,108,115,101]=false by kernel_rfl]at k;cases k
 obtain⟨-,e⟩:=aD e;rcases e with⟨k,-⟩|⟨-,e⟩;case inl=>rw[hx,show eB (sy [40]) [115,101,108,102]=false by kernel_rfl]at k;cases k
 obtain⟨-,e⟩:=aD e;rcases e with⟨-,e⟩|⟨k,-⟩;case inr=>rw[hx,show eB (sy [40]) [40]=true by kernel_rfl]at k;cases k
 obtain⟨_,s1,e1,e⟩:=aa e;obtain⟨h1,hm⟩:=oT h (by kernel_rfl) h0 h24 e1;obtain⟨x,y,e2,e⟩:=aa e;obtain⟨_,z,e3,e⟩:=aa e;obtain⟨rfl,rfl⟩:=au e;rcases bT e2 with⟨-,e2⟩|⟨k,-⟩
 ·exact⟨s1,y,h1,hm,e2,e3⟩
 ·rw[h1.ok]at k;cases k
end
def nK:Nat->List LN
 |0=>[[124,124]]
 |1=>[[38,38]]
 |2=>yO
 |3=>[[43],[45]]
 |4=>[[42],[47],[37]]
 |_=>[]
def QuL (L:Nat)(u:PS):Prop:=∀o∈nK L,u.is o=false
variable {q:Nat}
def rg {ex:PM Int}{ops:List LN}{s w:PS}{v:Int}(e:f7 ex ops q s=some (v,w)):∃v0 w0,ex s=some (v0,w0)/\((∀o∈ops,w0.is o=false)->v=v0/\w=w0):=by
 obtain⟨v0,w0,e1,e⟩:=aa e;refine⟨v0,w0,e1,fun h=>?_⟩
 cases q with
 |zero=>cases e
 |succ q=>
  unfold gY at e;obtain⟨-,e⟩:=ei e;rcases e with⟨-,e⟩|⟨o,k,-⟩
  ·obtain⟨rfl,rfl⟩:=au e;exact⟨rfl,rfl⟩
  ·rw[List.find?_eq_none.2 (fun o ho=>by rw[h o ho];decide)]at k;cases k
def Zq {ex:PM Int}{s w:PS}{v:Int}(e:DB ex s=some (v,w)):∃v0 w0,ex s=some (v0,w0)/\((∀o∈yO,w0.is o=false)->v=v0/\w=w0):=by
 obtain⟨v0,w0,e1,e⟩:=aa e;refine⟨v0,w0,e1,fun h=>?_⟩
 obtain⟨-,e⟩:=ei e;rcases e with⟨-,e⟩|⟨o,k,-⟩
 ·obtain⟨rfl,rfl⟩:=au e;exact⟨rfl,rfl⟩
 ·rw[List.find?_eq_none.2 (fun o ho=>by rw[h o ho];decide)]at k;cases k
variable {f:Nat}
def r_ {L:Nat}{s u:PS}{v:Int}(hL:L<=4)(e:fu q f L s=some (v,u)):∃f' v0 u0,fu q f' (L+1) s=some (v0,u0)/\(QuL L u0->v=v0/\u=u0):=by
 cases f with
 |zero=>cases e
 |succ f=>
  match L,hL,e with
  |0,_,e=>obtain⟨v0,u0,e1,g⟩:=rg e;exact⟨f,v0,u0,e1,g⟩
  |1,_,e=>obtain⟨v0,u0,e1,g⟩:=rg e;exact⟨f,v0,u0,e1,g⟩
  |2,_,e=>obtain⟨v0,u0,e1,g⟩:=Zq e;exact⟨f,v0,u0,e1,g⟩
  |3,_,e=>obtain⟨v0,u0,e1,g⟩:=rg e;exact⟨f,v0,u0,e1,g⟩
  |4,_,e=>obtain⟨v0,u0,e1,g⟩:=rg e;exact⟨f,v0,u0,e1,g⟩
def SQ {q:Nat}{s:PS}:∀(d L f:Nat) {u:PS} {v:Int},L+d<=5->fu q f L s=some (v,u)->∃f' v0 u0,fu q f' (L+d) s=some (v0,u0)/\((∀J,L<=J->J<L+d->QuL J u0)->v=v0/\u=u0)
 |0,L,f,u,v,_,e=>⟨f,v,u,e,fun _=>⟨rfl,rfl⟩⟩
 |d+1,L,f,u,v,hL,e=>by
  obtain⟨f1,v1,u1,e1,g1⟩:=r_ (by omega) e;obtain⟨f2,v2,u2,e2,g2⟩:=SQ d (L+1) f1 (by omega) e1;rw[show L+(d+1)=L+1+d by omega];refine⟨f2,v2,u2,e2,fun h=>?_⟩
  obtain⟨rfl,rfl⟩:=g2 fun J h1 h2=>h J (by omega) (by omega)
  exact g1 (h L (by omega) (by omega))
def lv5 {s u:PS}{v:Int}(h1:s.is [45]=false)(h2:s.is [33]=false)(e:fu q f 5 s=some (v,u)):∃f0,fD (fu q f0 0) q s=some (v,u):=by
 cases f with
 |zero=>cases e
 |succ f=>
 replace e:y3 (fu q f 5) (fu q f 6) s=some (v,u):=e;unfold y3 at e;obtain⟨-,e⟩:=aD e;rcases e with⟨k,-⟩|⟨-,e⟩;case inl=>rw[h1]at k;cases k
 obtain⟨-,e⟩:=aD e;rcases e with⟨k,-⟩|⟨-,e⟩;case inl=>rw[h2]at k;cases k
 cases f with
 |zero=>cases e
 |succ f=>exact⟨f,e⟩
def Hp {L:Nat}{s u:PS}{v:Int}(hL:L<=5)(h1:s.is [45]=false)(h2:s.is [33]=false)(e:fu q f L s=some (v,u)):∃f0 v0 u0,fD (fu q f0 0) q s=some (v0,u0)/\((∀J,L<=J->J<5->QuL J u0)->v=v0/\u=u0):=by
 obtain⟨f1,v1,u1,e1,g1⟩:=SQ (5 - L) L f (by omega) e;rw[show L+(5 - L)=5 by omega]at e1 g1;obtain⟨f0,e2⟩:=lv5 h1 h2 e1;exact⟨f0,v1,u1,e2,g1⟩
def ò (o:LN):Nat:=bif(nK 0).any (bv o)then 0 else bif(nK 1).any (bv o)then 1 else bif(nK 2).any (bv o)then 2 else bif(nK 3).any (bv o)then 3 else 4
def Ο:(binO.all fun o=>Nat.ble (ò o) 4&&((match (nK (ò o)).find? (eB (sy o))with|some x=>bv x o|none=>false)&&((List.range 5).all fun J=>Nat.ble J (ò o)||(nK J).all fun x=>!eB (sy o) x)))=true:=by kernel_rfl
def Ks {o:LN}(ho:o∈binO):ò o<=4/\(nK (ò o)).find? (eB (sy o))=some o/\∀J,ò o<J->J<5->∀x∈nK J,eB (sy o) x=false:=by
 have h:=lσ.1 Ο o ho;simp only[lγ,Nat.ble_eq,lσ,mκ,Bool.not_eq_true']at h;obtain⟨h1,h2,h3⟩:=h;refine⟨h1,?_,fun J h4 h5 x hx=>?_⟩
 ·cases hf:(nK (ò o)).find? (eB (sy o))with
  |none=>rw[hf]at h2;cases h2
  |some x=>
   rw[hf]at h2;simp only[ec,lδ]at h2;rw[h2]
 ·rcases h3 J (List.mem_range.2 h5)with h|h
  ·omega
  ·exact h x hx
def Ν {s u:PS}{v:Int}{o:LN}(ho:o∈binO)(h1:s.is [45]=false)(h2:s.is [33]=false)(e:fu q f 0 s=some (v,u)):
  ∃f1 x w1,fD (fu q f1 0) q s=some (x,w1)/\∀R1,Nx w1 (sy o::R1)->∃s2 f2 y w2 z w3,pUp w1=some ((),s2)/\fu q f2 (ò o+1) s2=some (y,w2)/\eb ⟨5,o,vz,[x,y]⟩ w2=some (z,w3)/\((∀J,J<5->QuL J w3)->v=z/\u=w3):=by
 obtain⟨hK,hfi,hq⟩:=Ks ho;obtain⟨f1,v1,u1,e1,g1⟩:=SQ (ò o) 0 f (by omega) e;rw[Nat.zero_add]at e1 g1;generalize hKe:ò o=K at hK hfi hq e1 g1;cases f1 with
 |zero=>cases e1
 |succ f1=>
  have main:(∃ops,nK K=ops/\f7 (fu q f1 (K+1)) ops q s=some (v1,u1))\/(K=2/\DB (fu q f1 3) s=some (v1,u1)):=by
   match K,hK,e1 with
   |0,_,e=>exact .inl ⟨_,rfl,e⟩
   |1,_,e=>exact .inl ⟨_,rfl,e⟩
   |2,_,e=>exact .inr ⟨rfl,e⟩
   |3,_,e=>exact .inl ⟨_,rfl,e⟩
   |4,_,e=>exact .inl ⟨_,rfl,e⟩
  rcases main with⟨ops,hops,em⟩|⟨rfl,em⟩
  ·obtain⟨x,w,ex1,em⟩:=aa em;obtain⟨fp,x0,w0,ep,gp⟩:=Hp (by omega) h1 h2 ex1;refine⟨fp,x0,w0,ep,fun R1 hn=>?_⟩
   have his:w0.is=eB (sy o):=funext hn.isA;obtain⟨rfl,rfl⟩:=gp fun J h3 h4 x hx=>by rw[his];exact hq J (by omega) h4 x hx
   cases q with
   |zero=>cases em
   |succ q=>
    unfold gY at em;obtain⟨-,em⟩:=ei em;rw[his,<-hops,hfi]at em;rcases em with⟨k,-⟩|⟨o',k,em⟩
    ·cases k
    injection k with k;subst k;obtain⟨_,s2,e2,em⟩:=aa em;obtain⟨y,w2,e3,em⟩:=aa em;obtain⟨z,w3,e4,em⟩:=aa em;refine⟨s2,f1,y,w2,z,w3,e2,e3,e4,fun h=>?_⟩
    have hv:v1=z/\u1=w3:=by
     cases q with
     |zero=>cases em
     |succ q=>
      unfold gY at em;obtain⟨-,em⟩:=ei em;rcases em with⟨-,em⟩|⟨o2,k,-⟩
      ·obtain⟨rfl,rfl⟩:=au em;exact⟨rfl,rfl⟩
      ·rw[List.find?_eq_none.2 (fun o2 ho2=>by rw[h K (by omega) o2 ho2];decide)]at k;cases k
    obtain⟨rfl,rfl⟩:=hv;exact g1 fun J _ _=>h J (by omega)
  ·obtain⟨x,w,ex1,em⟩:=aa em;obtain⟨fp,x0,w0,ep,gp⟩:=Hp (by omega) h1 h2 ex1;refine⟨fp,x0,w0,ep,fun R1 hn=>?_⟩
   have his:w0.is=eB (sy o):=funext hn.isA;obtain⟨rfl,rfl⟩:=gp fun J h3 h4 x hx=>by rw[his];exact hq J (by omega) h4 x hx
   obtain⟨-,em⟩:=ei em;rw[his,show yO=nK 2 from rfl,hfi]at em;rcases em with⟨k,-⟩|⟨o',k,em⟩
   ·cases k
   injection k with k;subst k;obtain⟨_,s2,e2,em⟩:=aa em;obtain⟨y,w2,e3,em⟩:=aa em;refine⟨s2,f1,y,w2,v1,u1,e2,e3,em,fun h=>g1 fun J _ _=>h J (by omega)⟩
def Tq (t:Tk):Bool:=bc t&&((List.range 5).all fun J=>(nK J).all fun x=>!eB t x)
def Io {t:Tk}{R:List Tk}{u:PS}(h:Tq t=true)(hn:Nx u (t::R)):∀J,J<5->QuL J u:=fun J hJ x hx=>by
 unfold Tq at h;simp only[lγ,lσ,Bool.not_eq_true']at h;rw[hn.isA];exact h.2 J (List.mem_range.2 hJ) x hx
def jd {a b:Va}(h:dC a b=true):a=b:=by
 unfold dC at h;simp only[bO,ec,lδ]at h;cases a;simp_all
def mI {a b:Bool}(h:(bif a then b else false)=true):a=true/\b=true:=by simp_all
def cv1 {v:Va}{l:LI}(h:dt ⟨1,nm,v,l⟩=true):nm=[]/\((∃n,v=vI n/\0<=n)\/(∃b:Bool,v=⟨2,bif b then 1 else 0,[],[],[]⟩)\/∃s,v=⟨3,0,s,[],[]⟩/\s.length<=64):=by
 replace h:xL ⟨1,nm,v,l⟩=true:=h;obtain⟨h1,h⟩:=mI h;obtain⟨h2,h⟩:=mI h;rw[ec,lδ]at h1;replace h2:kE v=true:=h2;obtain⟨⟨a1,a2,a3,a4⟩,⟨b1,b2⟩,c1,c2,c3,c4⟩:=ry h2;refine⟨h1,?_⟩;have hk:(v.k=1/\0<=v.n)\/v.k=2\/v.k=3:=by
  cases e3:eqI v.k 1<;>cases e4:aS 0 v.n<;>cases e5:eqI v.k 2<;>cases e6:eqI v.k 3<;>rw[e3]at h<;>simp only[e4,e5,e6]at h<;>simp only[bO,cn,lρ]at e3 e4 e5 e6<;>first|simp_all|omega
 have hI:v.I=[]:=c3.resolve_right (by omega);have hL:v.L=[]:=c4.resolve_right (by omega);cases v with
 |mk k n s I L=>
  simp at hk hI hL c1 c2 a1;subst hI hL;rcases hk with⟨rfl,hn⟩|rfl|rfl
  ·have hs:s=[]:=c2.resolve_right (by omega);subst hs;exact .inl ⟨n,rfl,hn⟩
  all_goals simp_all
def cv2 {v:Va}{l:LI}(h:dt ⟨2,nm,v,l⟩=true):bw nm=true/\v=vz:=by
 obtain⟨h1,h2⟩:=mI h;exact⟨h1,jd h2⟩
def cv9 {v:Va}{l:LI}(h:dt ⟨9,nm,v,l⟩=true):bw nm=true/\v=vz:=by
 obtain⟨h1,h2⟩:=mI h;exact⟨h1,jd h2⟩
def Zu {op:Int}{v:Va}{l:LI}(ho:op=3\/op=10\/op=11\/op=12\/op=13\/op=14\/op=15\/op=16\/op=17\/op=18)(h:dt ⟨op,nm,v,l⟩=true):nm=[]/\v=vz:=by
 have h':(bif bv nm []then dC v v0 else false)=true:=by
  rcases ho with rfl|rfl|rfl|rfl|rfl|rfl|rfl|rfl|rfl|rfl<;>exact h
 obtain⟨h1,h2⟩:=mI h';rw[ec,lδ]at h1;exact⟨h1,jd h2⟩
def cv4 {v:Va}{l:LI}(h:dt ⟨4,nm,v,l⟩=true):(nm=[45]\/nm=[33])/\v=vz:=by
 replace h:(bif bv nm [45]then dC v v0 else bif bv nm [33]then dC v v0 else false)=true:=h;cases h1:bv nm [45]with
 |true=>
  rw[h1,cond_true]at h;rw[ec,lδ]at h1;exact⟨.inl h1,jd h⟩
 |false=>
  rw[h1,cond_false]at h;obtain⟨h2,h⟩:=mI h;rw[ec,lδ]at h2;exact⟨.inr h2,jd h⟩
def cv5 {v:Va}{l:LI}(h:dt ⟨5,nm,v,l⟩=true):nm∈binO/\v=vz:=by
 replace h:(bif binO.any (fun t=>bv nm t)then dC v v0 else false)=true:=h;obtain⟨h1,h2⟩:=mI h;obtain⟨x,hx,he⟩:=qκ.1 h1;rw[ec,lδ]at he;exact⟨he▸hx,jd h2⟩
def cv6 {v:Va}{l:LI}(h:dt ⟨6,nm,v,l⟩=true):(bw nm=true\/nm=[105,110,116,115]\/nm=[115,116,114,105,110,103,115])/\v=vz:=by
 replace h:(bif bw nm then dC v v0 else bif bv nm [105,110,116,115]then dC v v0 else bif bv nm [115,116,114,105,110,103,115]then dC v v0 else false)=true:=h;cases h1:bw nm with
 |true=>rw[h1,cond_true]at h;exact⟨.inl rfl,jd h⟩
 |false=>
  rw[h1,cond_false]at h;cases h2:bv nm [105,110,116,115]with
  |true=>
   rw[h2,cond_true]at h;rw[ec,lδ]at h2;exact⟨.inr (.inl h2),jd h⟩
  |false=>
   rw[h2,cond_false]at h;obtain⟨h3,h⟩:=mI h;rw[ec,lδ]at h3;exact⟨.inr (.inr h3),jd h⟩
def cv7 {v:Va}{l:LI}(h:dt ⟨7,nm,v,l⟩=true):bw nm=true/\bw v.s=true/\v=⟨0,0,v.s,[],[]⟩:=by
 obtain⟨h1,h⟩:=mI h;obtain⟨h2,h⟩:=mI h;exact⟨h1,h2,jd h⟩
def cv8 {v:Va}{l:LI}(h:dt ⟨8,nm,v,l⟩=true):bw nm=true/\(1<=v.k/\v.k<=5)/\v=⟨v.k,0,[],[],[]⟩:=by
 obtain⟨h1,h⟩:=mI h;obtain⟨h2,h⟩:=mI h;unfold eI at h2;simp only[lγ,cn,lδ]at h2;exact⟨h1,h2,jd h⟩
def Dz (op:Int):Nat:=bif eqI op 4 then 2 else bif eqI op 5||(eqI op 6||(eqI op 7||(eqI op 15||(eqI op 16||(eqI op 17||eqI op 18)))))then 1 else 0
def fiH (op:Int)(j:Nat):Nat:=bif(eqI op 11||eqI op 12)&&Nat.beq j 0 then 1 else 0
mutual
def hT:Tr->Nat
 | .n op _ _ ks=>Dz op+hL op 0 ks
def hL (op:Int):Nat->List Tr->Nat
 |_,[]=>0
 |j,t::r=>max (hT t+fiH op j) (hL op (j+1) r)
end
def Sw {op:Int}:∀(l:List Tr) (j:Nat),∀t∈l,hT t<=hL op j l
 |[],j,t,h=>by cases h
 |a::r,j,t,h=>by
  simp only[hL];rcases mα.1 h with rfl|h
  ·omega
  ·have:=Sw (op:=op) r (j+1) t h;omega
def vV {t:Tr}:∀{l:List Tr},Ec l->t∈l->Wf t
 |[],_,h=>by cases h
 |a::r,hw,h=>by
  simp only[Ec]at hw;rcases mα.1 h with rfl|h
  ·grind
  ·exact vV hw.2 h
def qo {P:No->Prop}{t:Tr}:∀{l:List Tr},oa P l->t∈l->iD P t
 |[],_,h=>by cases h
 |a::r,hw,h=>by
  simp only[oa]at hw;rcases mα.1 h with rfl|h
  ·grind
  ·exact qo hw.2 h
def Is {t:Tr}:∀{l:List Tr},t∈l->t.sz<=eR l
 |[],h=>by cases h
 |a::r,h=>by
  simp only[eR];rcases mα.1 h with rfl|h
  ·omega
  ·have:=Is h;omega
def Gf (t:Tk):Bool:=bc t&&(!eB t [45]&&(!eB t [33]&&(!eB t [41]&&((eqI t.k 1||(eqI t.k 3||eqI t.k 4))||((eqI t.k 2||eqI t.k 5)&&beginL.any (bv t.s))))))
def Ko {w:LN}(h:bw w=true):Gf (na w)=true:=by
 unfold Gf;rw[jJ h,ma h,ma h,ma h];rfl
variable {x:LN}
def Ht {t:Tk}(h:t.k=3\/t.k=4):eB t x=false:=by
 unfold eB;rcases h with h|h<;>rw[h]
 ·simp only[show eqI (3:Int) 2=false from rfl,show eqI (3:Int) 5=false from rfl,Bool.or_self,Bool.false_and,Bool.and_false]
 ·simp only[show eqI (4:Int) 2=false from rfl,show eqI (4:Int) 5=false from rfl,Bool.or_self,Bool.false_and,Bool.and_false]
def Η {s:PS}{t:Tk}{R:List Tk}(h:Gf t=true)(hn:Nx s (t::R)):s.is [45]=false/\s.is [33]=false/\s.is [41]=false/\s.begins=true:=by
 unfold Gf at h;simp at h;obtain⟨h1,h2,h3,h4,h5⟩:=h;obtain⟨a1,a2,_⟩:=hn.k h1;refine⟨by rw[hn.isA];exact h2,by rw[hn.isA];exact h3,by rw[hn.isA];exact h4,?_⟩
 unfold PS.begins;simp_all
def eV (x:No):Prop:=x.op=1->x.v.n<=9223372036854775807/\By x.v.s
abbrev bQ (ws:List LN):List Tk:=ws.map bD
def Sn {t:Tr}(hw:Wf t)(hv:iD eV t)(he:bo t.op=true):∃t0 r,bQ t.w=t0::r/\Gf t0=true:=by
 cases t with
 |n op nm v ks=>
  simp only[Tr.op]at he;unfold bo at he;simp only[lγ,cn,lδ]at he;have e:op=1\/op=2\/op=3\/op=4\/op=5\/op=6:=by omega
  rcases e with rfl|rfl|rfl|rfl|rfl|rfl
  ·obtain⟨rfl,⟨n,rfl,hn⟩|⟨b,rfl⟩|⟨s,rfl,hs⟩⟩:=cv1 hw.2.1
   ·have hn1:=(hv.1 rfl).1;have ht:=(CP hn hn1).2;refine⟨⟨3,ew n,n,0⟩,[],?_,?_⟩
    ·show bQ (iA n)=_;unfold iA;rw[tz (show ¬n<0 by omega),cond_false];simp_all
    ·unfold Gf;rw[show bc ⟨3,ew n,n,0⟩=true from ji hn,Ht (.inl rfl),Ht (.inl rfl),Ht (.inl rfl)];rfl
   ·cases b
    ·exact⟨kw [102,97,108,115,101],[],by rfl,by rfl⟩
    ·exact⟨kw [116,114,117,101],[],by rfl,by rfl⟩
   ·have ht:=(IA (hv.1 rfl).2 hs).2;refine⟨⟨4,s,0,0⟩,[],?_,?_⟩
    ·show[bD (gv s)]=_;rw[ht]
    ·unfold Gf;rw[show bc ⟨4,s,0,0⟩=true from ji (show(s.length:Int)<=64 by omega),Ht (.inr rfl),Ht (.inr rfl),Ht (.inr rfl)];rfl
  ·obtain⟨h1,rfl⟩:=cv2 hw.2.1;exact⟨na nm,[],by show[bD nm]=_;rw[(jT h1).2],Ko h1⟩
  ·exact⟨kw [115,101,108,102],[],by rfl,by rfl⟩
  ·exact⟨sy [40],_,rfl,by rfl⟩
  ·exact⟨sy [40],_,rfl,by rfl⟩
  ·obtain⟨h1,rfl⟩:=cv6 hw.2.1;rcases h1 with h1|rfl|rfl
   ·exact⟨na nm,_,by show bD nm::_=_;rw[(jT h1).2],Ko h1⟩
   ·exact⟨kw [105,110,116,115],_,rfl,by rfl⟩
   ·exact⟨kw [115,116,114,105,110,103,115],_,rfl,by rfl⟩
def bd (a b:List LN):bQ (a++b)=bQ a++bQ b:=List.map_append ..
def gO (a:LN)(b:List LN):bQ (a::b)=bD a::bQ b:=rfl
def QV:bD [44]=sy [44]:=by rfl
def Fv:bD [40]=sy [40]:=by rfl
def Fu:bD [41]=sy [41]:=by rfl
def wA:∀(i:Nat) (r:Ws),bU (i+1) r=bU 1 r
 |_,[]=>rfl
 |i,w::r=>by
  show[44]::(w++bU (i+2) r)=[44]::(w++bU 2 r);rw[wA (i+1) r,wA 1 r]
def AZ (w:List LN)(r:Ws):bU 1 (w::r)=[44]::(w++bU 1 r):=by
 show[44]::(w++bU 2 r)=_;rw[wA 1 r]
def wz (w:List LN)(r:Ws):bU 0 (w::r)=w++bU 1 r:=rfl
def ZO {l r:List α}{w:α}{i:Nat}(h:l.drop i=w::r):∃h:i<l.length,l[i]=w/\l.drop (i+1)=r:=by
 have hi:i<l.length:=by
  rcases lυ i l.length with h'|h'
  ·exact h'
  ·rw[List.drop_of_length_le h']at h;cases h
 rw[lι hi]at h;grind
def K0 {α:Type}{begins:PS->Bool}{elem:PM α}{most:Nat}(ws:Ws)(J:Nat->PS->List α->Prop)
  (hE:∀(i:Nat) (h:i<ws.length) (s u:PS) (l l':List α) (R:List Tk) (t1:Tk),Nx s (bQ ws[i]++t1::R)->J i s l->(t1=sy [44]\/t1=sy [41])->snoc elem l s=some (l',u)->J (i+1) u l'/\Nx u (t1::R))
  (hU:∀i s l,J i s l->J i s.up l)
  (hB:∀(i:Nat) (h:i<ws.length) (s:PS) (R:List Tk),Nx s (bQ ws[i]++R)->begins s=true)
  (hM:ws.length<=most):∀(q i:Nat) (w:List LN) (r:Ws) (s u:PS) (l l':List α) (R:List Tk),ws.drop i=w::r->Nx s (bQ (w++bU 1 r)++sy [41]::R)->J i s l->sN begins (snoc elem) most q i l s=some (l',u)->J ws.length u l'/\Nx u (sy [41]::R)
 |0,i,w,r,s,u,l,l',R,hd,hn,hj,e=>by cases e
 |q+1,i,w,r,s,u,l,l',R,hd,hn,hj,e=>by
  obtain⟨hi,rfl,hd'⟩:=ZO hd;rcases bT e with⟨-,e⟩|⟨k,-⟩;case inr=>rw[hn.ok]at k;cases k
  obtain⟨_,s1,e1,e⟩:=aa e;have hs1:s1=s:=by
   obtain⟨-,e1⟩:=bb e1;injection e1 with _ e1;have hb:=hB i hi s _ (by rw[bd,lε]at hn;exact hn);have hm:Nat.beq i most=false:=by
    cases hq:Nat.beq i most with
    |false=>rfl
    |true=>have:=lη hq;omega
   rw[hb,hm]at e1;exact e1.symm
  rw[hs1]at e;obtain⟨l1,s2,e2,e⟩:=aa e;cases r with
  |nil=>
   rw[show bU 1 []=[]from rfl,lν]at hn;obtain⟨hj2,hn2⟩:=hE i hi _ _ _ _ R _ hn hj (.inr rfl) e2;obtain⟨-,e⟩:=aD e;rcases e with⟨k,-⟩|⟨-,e⟩;case inl=>rw[hn2.isA,show eB (sy [41]) [44]=false by kernel_rfl]at k;cases k
   obtain⟨rfl,rfl⟩:=au e;have hl:ws.length=i+1:=by
    have:=congrArg List.length hd';rw[lχ,List.length_nil]at this;omega
   rw[hl];exact⟨hj2,hn2⟩
  |cons w2 r2=>
   rw[AZ,bd,gO,QV,lε]at hn;obtain⟨hj2,hn2⟩:=hE i hi _ _ _ _ _ _ hn hj (.inl rfl) e2;obtain⟨-,e⟩:=aD e;rcases e with⟨-,e⟩|⟨k,-⟩;case inr=>rw[hn2.isA,show eB (sy [44]) [44]=true by kernel_rfl]at k;cases k
   obtain⟨_,s3,e3,e⟩:=aa e;obtain⟨-,e3⟩:=bb e3;injection e3 with _ e3;subst e3;exact K0 ws J hE hU hB hM q (i+1) w2 r2 _ _ _ _ R hd' hn2.up (hU _ _ _ hj2) e
def zm {begins:PS->Bool}{elem:PM α}{most:Nat}(ws:Ws)(J:Nat->PS->List α->Prop)(hE:∀(i:Nat) (h:i<ws.length) (s u:PS) (l l':List α) (R:List Tk) (t1:Tk),Nx s (bQ ws[i]++t1::R)->J i s l->(t1=sy [44]\/t1=sy [41])->snoc elem l s=some (l',u)->J (i+1) u l'/\Nx u (t1::R))(hU:∀i s l,J i s l->J i s.up l)(hB:∀(i:Nat) (h:i<ws.length) (s:PS) (R:List Tk),Nx s (bQ ws[i]++R)->begins s=true/\s.is [41]=false)(hM:ws.length<=most){s u:PS}{l':List α}{R:List Tk}(hn:Nx s (bQ (bU 0 ws)++sy [41]::R))(hj:J 0 s [])(e:EC begins (snoc elem) most q [] s=some (l',u)):J ws.length u l'/\Nx u (sy [41]::R):=by
 unfold EC at e;obtain⟨-,e⟩:=aD e;cases ws with
 |nil=>
  rcases e with⟨-,e⟩|⟨k,-⟩;case inr=>rw[Nx.isA (show Nx s (sy [41]::R)from hn),show eB (sy [41]) [41]=true by kernel_rfl]at k;cases k
  obtain⟨rfl,rfl⟩:=au e;exact⟨hj,hn⟩
 |cons w r=>
  rw[wz]at hn;rcases e with⟨k,-⟩|⟨-,e⟩;case inl=>
   have:=(hB 0 (by simp) s _ (by rw[bd,lε]at hn;exact hn)).2;rw[this]at k;cases k
  exact K0 (w::r) J hE hU (fun i h s R hn=>(hB i h s R hn).1) hM q 0 w r s u [] l' R rfl hn hj e
def uz:∀(l:List Tr) (t:Tr) (b:Nat),iW (l++[t]) b=iW l b++t.fl (b+eR l)
 |[],t,b=>by simp only[List.nil_append,iW,eR,lν,Nat.add_zero]
 |a::r,t,b=>by simp only[List.cons_append,iW,eR,uz r t,lε,Nat.add_assoc]
def vm:∀(l:List Tr) (t:Tr) (b:Nat),eJ b (l++[t])=eJ b l++[((b+eR l+t.sz - 1:Nat):Int)]
 |[],t,b=>by simp only[List.nil_append,eJ,eR,Nat.add_zero]
 |a::r,t,b=>by simp only[List.cons_append,eJ,eR,vm r t,Nat.add_assoc]
def iz (l:List α)(i:Nat)(h:i<l.length):l.take (i+1)=l.take i++[l[i]]:=by
 rw[List.take_add_one,lθ h];rfl
def QY:∀(l:List Tr) (i:Nat) (h:i<(wL l).length) (h':i<l.length),(wL l)[i]=l[i].w
 |t::r,0,_,_=>rfl
 |t::r,i+1,h,h'=>by
  simp only[wL,List.getElem_cons_succ];exact QY r i _ _
def BR (t:Tk):Bool:=bc t&&!(eqI t.k 5&&bv t.s [40])
def PT (t:Tr):Prop:=∀(q f:Nat) (s u:PS) (v:Int) (R:List Tk) (t1:Tk),Nx s (bQ t.w++t1::R)->BR t1=true->0<=s.ne->s.ne+hT t<=24->fD (fu q f 0) q s=some (v,u)->v=((s.nd.length+t.sz - 1:Nat):Int)/\xF s u (t.fl s.nd.length) (t1::R)
def EX (t:Tr):Prop:=∀(q f L:Nat) (s u:PS) (v:Int) (R:List Tk) (t1:Tk),L<=5->Nx s (bQ t.w++t1::R)->BR t1=true->Tq t1=true->0<=s.ne->s.ne+hT t<=24->fu q f L s=some (v,u)->v=((s.nd.length+t.sz - 1:Nat):Int)/\xF s u (t.fl s.nd.length) (t1::R)
def Bh {t:Tr}(hw:Wf t)(hv:iD eV t)(he:bo t.op=true){s:PS}{R:List Tk}(h:Nx s (bQ t.w++R)):s.is [45]=false/\s.is [33]=false/\s.is [41]=false/\s.begins=true:=by
 obtain⟨t0,r,h1,h2⟩:=Sn hw hv he;rw[h1]at h;exact Η h2 h
def Lh {t:Tr}(hw:Wf t)(hv:iD eV t)(he:bo t.op=true)(hP:PT t):EX t:=by
 intro q f L s u v R t1 hL hn h1 h2 h0 h24 e;obtain⟨a1,a2,-,-⟩:=Bh hw hv he hn;obtain⟨f0,v0,u0,e0,g⟩:=Hp hL a1 a2 e;obtain⟨rfl,hf⟩:=hP q f0 s u0 v0 R t1 hn h1 h0 h24 e0;obtain⟨rfl,rfl⟩:=g fun J _ hJ=>Io h2 hf.nx J hJ
 exact⟨rfl,hf⟩
def KG {t1:Tk}(h:t1=sy [44]\/t1=sy [41]):BR t1=true/\Tq t1=true:=by
 rcases h with rfl|rfl
 ·exact⟨by kernel_rfl,by kernel_rfl⟩
 ·exact⟨by kernel_rfl,by kernel_rfl⟩
def Kl {s u:PS}{l:LI}{R:List Tk}(ks:List Tr)(hk:∀k∈ks,Wf k/\iD eV k/\bo k.op=true/\EX k)(h16:ks.length<=16)(hn:Nx s (bQ (bp (wL ks))++R))(h0:0<=s.ne)(h24:s.ne<24)(hh:∀k∈ks,s.ne+1+hT k<=24)(e:sa (fu q f 0) q s=some (l,u)):l=eJ s.nd.length ks/\xF s u (iW ks s.nd.length) R:=by
 unfold bp at hn;rw[gO,bd,gO,Fv,Fu]at hn;obtain⟨_,s1,e1,e⟩:=aa e;obtain⟨l2,s2,e2,e⟩:=aa e;obtain⟨_,s3,e3,e⟩:=aa e;obtain⟨rfl,rfl⟩:=au e;rw[List.cons_append,lε]at hn;obtain⟨hn1,hm1⟩:=oT hn (by kernel_rfl) h0 h24 e1;have hlen:=CO ks;have key:=zm (wL ks) (fun i w l=>w.ne=s.ne+1/\w.tt=s.tt/\w.nd=s.nd++iW (ks.take i) s.nd.length/\l=eJ s.nd.length (ks.take i))
  (fun i h w z l l' R' t1 hw hj ht ee=>by
   obtain⟨j1,j2,j3,j4⟩:=hj;have hi:i<ks.length:=by omega
   obtain⟨k1,k2,k3,k4⟩:=hk _ (lπ hi);have hh1:=hh _ (lπ hi);rw[QY ks i h hi]at hw;obtain⟨x,ee2,-,rfl⟩:=cf ee;obtain⟨c1,c2⟩:=KG ht;obtain⟨rfl,hf⟩:=k4 q f 0 w z x R' t1 (by omega) hw c1 c2 (by omega) (by omega) ee2;have hwl:w.nd.length=s.nd.length+eR (ks.take i):=by rw[j3,lα,iX]
   refine⟨⟨hf.ne.trans j1,hf.tt.trans j2,?_,?_⟩,hf.nx⟩
   ·rw[hf.nd,j3,iz ks i hi,uz,<-j3,hwl,j3,lε]
   ·rw[iz ks i hi,vm,j4,hwl])
  (fun i w l hj=>hj)
  (fun i h w R' hw=>by
   have hi:i<ks.length:=by omega
   obtain⟨k1,k2,k3,k4⟩:=hk _ (lπ hi);rw[QY ks i h hi]at hw;obtain⟨-,-,b3,b4⟩:=Bh k1 k2 k3 hw;exact⟨b4,b3⟩)
  (by omega) hn1 ⟨hm1.ne,hm1.tt,by rw[hm1.nd];simp only[List.take_zero,iW,lν],by simp only[List.take_zero,eJ]⟩ e2
 obtain⟨⟨j1,j2,j3,j4⟩,hn2⟩:=key;obtain⟨hn3,hm3⟩:=mb hn2 (by kernel_rfl) (by omega) (by omega) e3;have ht:ks.take (wL ks).length=ks:=by rw[hlen,List.take_length]
 rw[ht]at j3 j4;exact⟨j4,hn3,by have:=hm3.ne;omega,hm3.nd.trans j3,hm3.tt.trans j2⟩
def GV {op:Int}{v:Va}{ks:List Tr}{k:Tr}(h:k∈ks):Dz op+hT k<=hT (.n op nm v ks):=by
 simp only[hT];have:=Sw (op:=op) ks 0 k h;omega
def ĵ {ks:List Tr}(h:ks.length=1):∃a,ks=[a]:=by
 match ks,h with
 |[a],_=>simp
def aeL {ks:List Tr}(h:ks.length=2):∃a b,ks=[a,b]:=by
 match ks,h with
 |[a,b],_=>simp
def tkB (a b:Tk):Bool:=eqI a.k b.k&&(bv a.s b.s&&(eqI a.n b.n&&eqI a.a b.a))
def QS {a b:Tk}(h:tkB a b=true):a=b:=by
 unfold tkB at h;simp only[bO,ec,lδ]at h;cases a;simp_all
def Ķ:(([[45],[33]]++binO).all fun o=>tkB (bD o) (sy o)&&(BR (sy o)&&(W_ o&&!bv o [40])))=true:=by rfl
def Iw {o:LN}(h:o∈[[45],[33]]++binO):bD o=sy o/\BR (sy o)=true:=by
 have:=lσ.1 Ķ o h;simp at this;exact⟨QS this.1,this.2.1⟩
def b_ {o:LN}(h:o∈[[45],[33]]++binO):eB (sy o) o=true:=by
 have:=lσ.1 Ķ o h;simp at this;unfold eB;rw[show bc (sy o)=true from this.2.2.1];simp only[ec,Bool.true_and];rfl
def ac2 {s u:PS}{v:Int}{k:Tr}{R:List Tk}(hnm:nm=[45]\/nm=[33])(hk:EX k)(hn:Nx s (sy nm::(bQ k.w++sy [41]::R)))(h0:0<=s.ne)(h24:s.ne+1+hT k<=24)(e:fu q f 0 s=some (v,u)):v=((s.nd.length+k.sz:Nat):Int)/\xF s u (k.fl s.nd.length++[⟨4,nm,vz,[((s.nd.length+k.sz - 1:Nat):Int)]⟩]) (sy [41]::R):=by
 have hmem:nm∈[[45],[33]]++binO:=by grind
 obtain⟨f1,v1,u1,e1,g⟩:=SQ 5 0 f (by omega) e;have main:v1=((s.nd.length+k.sz:Nat):Int)/\xF s u1 (k.fl s.nd.length++[⟨4,nm,vz,[((s.nd.length+k.sz - 1:Nat):Int)]⟩]) (sy [41]::R):=by
  cases f1 with
  |zero=>cases e1
  |succ f1=>
  replace e1:y3 (fu q f1 5) (fu q f1 6) s=some (v1,u1):=e1;have eU:pUn nm (fu q f1 5) s=some (v1,u1):=by
   obtain⟨-,e1⟩:=aD e1;rcases hnm with rfl|rfl
   ·rcases e1 with⟨-,e1⟩|⟨k,-⟩
    ·exact e1
    ·rw[hn.isA,show eB (sy [45]) [45]=true by rfl]at k;cases k
   ·rcases e1 with⟨k,-⟩|⟨-,e1⟩;case inl=>rw[hn.isA,show eB (sy [33]) [45]=false by rfl]at k;cases k
    obtain⟨-,e1⟩:=aD e1;rcases e1 with⟨-,e1⟩|⟨k,-⟩
    ·exact e1
    ·rw[hn.isA,show eB (sy [33]) [33]=true by rfl]at k;cases k
  obtain⟨_,s1,c1,eU⟩:=aa eU;obtain⟨x,s2,c2,eU⟩:=aa eU;obtain⟨_,s3,c3,eU⟩:=aa eU;obtain⟨hn1,hm1⟩:=oT hn (b_ hmem) h0 (by omega) c1;rcases bT c2 with⟨-,c2⟩|⟨k,-⟩;case inr=>rw[hn1.ok]at k;cases k
  have hne:=hm1.ne;obtain⟨rfl,hf⟩:=hk q f1 5 s1 s2 x R _ (by omega) hn1 (by rfl) (by rfl) (by omega) (by omega) c2;have hne2:=hf.ne;obtain⟨hn3,hm3⟩:=acU hf.nx (by omega) (by omega) c3;obtain⟨rfl,hf4⟩:=gu hn3 eU;have hl:s3.nd.length=s.nd.length+k.sz:=by rw[hm3.nd,hf.nd,lα,gB,hm1.nd]
  refine⟨by rw[hl],hf4.nx,by have:=hf4.ne;have:=hm3.ne;omega,?_,?_⟩
  ·rw[hf4.nd,hm3.nd,hf.nd,hm1.nd,lε]
  ·rw[hf4.tt,hm3.tt,hf.tt,hm1.tt]
 obtain⟨rfl,hf⟩:=main;obtain⟨rfl,rfl⟩:=g fun J _ hJ=>Io (by rfl) hf.nx J (by omega)
 simp_all
def ac3 {s u:PS}{v:Int}{k l:Tr}{R:List Tk}(hnm:nm∈binO)(hwk:Wf k)(hvk:iD eV k)(hek:bo k.op=true)(hk:PT k)(hl:EX l)(hn:Nx s (bQ k.w++sy nm::(bQ l.w++sy [41]::R)))(h0:0<=s.ne)(hk24:s.ne+hT k<=24)(hl24:s.ne+hT l<=24)(e:fu q f 0 s=some (v,u)):
  v=((s.nd.length+k.sz+l.sz:Nat):Int)/\xF s u (k.fl s.nd.length++(l.fl (s.nd.length+k.sz)++[⟨5,nm,vz,[((s.nd.length+k.sz - 1:Nat):Int),((s.nd.length+k.sz+l.sz - 1:Nat):Int)]⟩])) (sy [41]::R):=by
 have hmem:nm∈[[45],[33]]++binO:=List.mem_append_right _ hnm;obtain⟨a1,a2,-,-⟩:=Bh hwk hvk hek hn;obtain⟨f1,x,w1,e1,g⟩:=Ν hnm a1 a2 e;obtain⟨rfl,hf⟩:=hk q f1 s w1 x _ _ hn (Iw hmem).2 h0 hk24 e1;obtain⟨s2,f2,y,w2,z,w3,e2,e3,e4,g⟩:=g _ hf.nx;obtain⟨hn2,hm2⟩:=kx hf.nx e2;have i1:=hf.ne;have i2:=hm2.ne;obtain⟨rfl,hf3⟩:=hl q f2 (ò nm+1) s2 w2 y R _ (by have:=(Ks hnm).1;omega) hn2 (by rfl) (by rfl) (by omega) (by omega) e3;obtain⟨rfl,hf4⟩:=gu hf3.nx e4;obtain⟨rfl,rfl⟩:=g fun J hJ=>Io (by rfl) hf4.nx J hJ
 have hl1:s2.nd.length=s.nd.length+k.sz:=by rw[hm2.nd,hf.nd,lα,gB]
 have hl2:w2.nd.length=s.nd.length+k.sz+l.sz:=by rw[hf3.nd,lα,gB,hl1]
 refine⟨by rw[hl2],hf4.nx,by have:=hf4.ne;have:=hf3.ne;omega,?_,?_⟩
 ·rw[hf4.nd,hf3.nd,hl1,hm2.nd,hf.nd,lε,lε]
 ·rw[hf4.tt,hf3.tt,hm2.tt,hf.tt]
def Ę:∀(n:Nat) (t:Tr),t.sz<=n->Wf t->iD eV t->bo t.op=true->PT t
 |0,t,h,_,_,_=>by have:=xl t;omega
 |n+1,.n op nm v ks,hsz,hw,hv,he=>by
  simp only[Tr.op]at he;simp only[Tr.sz]at hsz;have kd:∀k∈ks,bo k.op=true->Wf k/\iD eV k/\bo k.op=true/\PT k/\EX k:=fun k hk hek=>by
   have h1:=vV hw.2.2 hk;have h2:=qo hv.2 hk;have h3:=Ę n k (by have:=Is hk;omega) h1 h2 hek;exact⟨h1,h2,hek,h3,Lh h1 h2 hek h3⟩
  intro q f s u w R t1 hn h1 h0 h24 e;have hk24:∀k∈ks,s.ne+(Dz op+hT k:Nat)<=24:=fun k hk=>by
   have:=GV (op:=op) (nm:=nm) (v:=v) hk;omega
  have hp1:bc t1=true:=by unfold BR at h1;simp_all
  have hp2:(eqI t1.k 5&&bv t1.s [40])=false:=by unfold BR at h1;grind
  unfold bo at he;simp only[lγ,cn,lδ]at he;have ho:op=1\/op=2\/op=3\/op=4\/op=5\/op=6:=by omega
  have hsz1:s.nd.length+(Tr.n op nm v ks).sz - 1=s.nd.length+eR ks:=by rfl
  rw[hsz1];simp only[Tr.w,Tr.fl]at hn ⊢
  rcases ho with rfl|rfl|rfl|rfl|rfl|rfl
  ·have hks:ks=[]:=by
    have:=hw.1;replace this:(ks.map Tr.op).isEmpty=true:=this;simp_all
   subst hks;obtain⟨rfl,⟨c,rfl,hc⟩|⟨b,rfl⟩|⟨c,rfl,hc⟩⟩:=cv1 hw.2.1
   ·have hn1:=(hv.1 rfl).1;have ht:=(CP hc hn1).2;have hwd:bQ (bW 1 [] (vI c) (wL []))=[⟨3,ew c,c,0⟩]:=by
     show bQ (iA c)=_;unfold iA;rw[tz (show ¬c<0 by omega),cond_false];simp_all
    rw[hwd]at hn;exact ĕ hc hn e
   ·have hwd:bQ (bW 1 [] ⟨2,bif b then 1 else 0,[],[],[]⟩ (wL []))=[kw (bif b then[116,114,117,101]else[102,97,108,115,101])]:=by cases b<;>kernel_rfl
    rw[hwd]at hn;exact Wo hn e
   ·have ht:=(IA (hv.1 rfl).2 hc).2;have hwd:bQ (bW 1 [] ⟨3,0,c,[],[]⟩ (wL []))=[⟨4,c,0,0⟩]:=by
     show[bD (gv c)]=_;rw[ht]
    rw[hwd]at hn;exact Ė hc hn e
  ·have hks:ks=[]:=by
    have:=hw.1;replace this:(ks.map Tr.op).isEmpty=true:=this;simp_all
   subst hks;obtain⟨g1,rfl⟩:=cv2 hw.2.1;have hwd:bQ (bW 2 nm vz (wL []))=[na nm]:=by
    show[bD nm]=_;rw[(jT g1).2]
   rw[hwd]at hn;exact ė g1 hn hp1 hp2 e
  ·have hks:ks=[]:=by
    have:=hw.1;replace this:(ks.map Tr.op).isEmpty=true:=this;simp_all
   subst hks;obtain⟨rfl,rfl⟩:=Zu (.inl rfl) hw.2.1;have hwd:bQ (bW 3 [] vz (wL []))=[kw [115,101,108,102]]:=by rfl
   exact Wp hn e
  ·obtain⟨g1,rfl⟩:=cv4 hw.2.1;have hko:(Nat.beq (ks.map Tr.op).length 1&&(ks.map Tr.op).all bo)=true:=hw.1;rw[lγ,lζ]at hko;obtain⟨k,rfl⟩:=ĵ (lη hko.1);have hek:bo k.op=true:=lσ.1 hko.2 _ (by simp);obtain⟨k1,k2,k3,k4,k5⟩:=kd k (by simp) hek;have hh:=hk24 k (by simp);have hop:Dz 4=2:=rfl;have hmem:nm∈[[45],[33]]++binO:=by grind
   have hwd:bQ (bW 4 nm vz (wL [k]))=sy [40]::sy nm::(bQ k.w++[sy [41]]):=by
    show bQ ([[40],nm]++(k.w++[[41]]))=_;rw[bd,bd,<-Fv,<-Fu,<-(Iw hmem).1];rfl
   rw[hwd]at hn;simp at hn;obtain⟨s1,w1,hn1,hm1,e1,e2⟩:=MT hn h0 (by omega) e;have i1:=hm1.ne;obtain⟨rfl,hf⟩:=ac2 g1 k5 hn1 (by omega) (by omega) e1;have i2:=hf.ne;obtain⟨hn2,hm2⟩:=mb hf.nx (by rfl) (by omega) (by omega) e2;have i3:=hm2.ne;refine⟨by rw[hm1.nd];rfl,hn2,by omega,?_,?_⟩
   ·rw[hm2.nd,hf.nd,hm1.nd];simp only[iW,eJ,lν,lε]
   ·rw[hm2.tt,hf.tt,hm1.tt]
  ·obtain⟨g1,rfl⟩:=cv5 hw.2.1;have hko:(Nat.beq (ks.map Tr.op).length 2&&(ks.map Tr.op).all bo)=true:=hw.1;rw[lγ,lζ]at hko;obtain⟨k,l,rfl⟩:=aeL (lη hko.1);have hek:bo k.op=true:=lσ.1 hko.2 _ (by simp);have hel:bo l.op=true:=lσ.1 hko.2 _ (by simp);obtain⟨k1,k2,k3,k4,k5⟩:=kd k (by simp) hek;obtain⟨l1,l2,l3,l4,l5⟩:=kd l (by simp) hel;have hh:=hk24 k (by simp);have hh2:=hk24 l (by simp);have hop:Dz 5=1:=rfl;have hmem:nm∈[[45],[33]]++binO:=List.mem_append_right _ g1;have hwd:bQ (bW 5 nm vz (wL [k,l]))=sy [40]::(bQ k.w++sy nm::(bQ l.w++[sy [41]])):=by
    show bQ ([[40]]++(k.w++([nm]++(l.w++[[41]]))))=_;rw[bd,bd,bd,bd,<-Fv,<-Fu,<-(Iw hmem).1];rfl
   rw[hwd]at hn;simp at hn;obtain⟨s1,w1,hn1,hm1,e1,e2⟩:=MT hn h0 (by omega) e;have i1:=hm1.ne;obtain⟨rfl,hf⟩:=ac3 g1 k1 k2 k3 k4 l5 hn1 (by omega) (by omega) (by omega) e1;have i2:=hf.ne;obtain⟨hn2,hm2⟩:=mb hf.nx (by rfl) (by omega) (by omega) e2;have i3:=hm2.ne;refine⟨by rw[hm1.nd];simp only[eR,Nat.add_zero,Nat.add_assoc],hn2,by omega,?_,?_⟩
   ·rw[hm2.nd,hf.nd,hm1.nd];simp only[iW,eJ,lν,lε]
   ·rw[hm2.tt,hf.tt,hm1.tt]
  ·obtain⟨g1,rfl⟩:=cv6 hw.2.1;have hko:(Nat.ble (ks.map Tr.op).length 16&&(ks.map Tr.op).all bo)=true:=hw.1;rw[lγ,lζ,Nat.ble_eq]at hko;have hop:Dz 6=1:=rfl;have ht:((bD nm).k=1/\bw (bD nm).s=true)\/bD nm=kw [105,110,116,115]\/bD nm=kw [115,116,114,105,110,103,115]:=by
    rcases g1 with g1|rfl|rfl
    ·rw[(jT g1).2];simp_all
    ·exact .inr (.inl (by rfl))
    ·exact .inr (.inr (by rfl))
   have hts:(bD nm).s=nm:=by
    rcases g1 with g1|rfl|rfl
    ·rw[(jT g1).2]
    all_goals rfl
   have hwd:bQ (bW 6 nm vz (wL ks))=bD nm::bQ (bp (wL ks)):=rfl;have hh0:1<=hT (.n 6 nm vz ks):=by simp only[hT,hop];omega
   have hn':Nx s (bD nm::sy [40]::(bQ (bU 0 (wL ks))++(sy [41]::t1::R))):=by
    have:bQ (bp (wL ks))=sy [40]::(bQ (bU 0 (wL ks))++[sy [41]]):=by
     unfold bp;rw[gO,bd,Fv,<-Fu];rfl
    simp_all
   obtain⟨l,w1,s1,hn1,hm1,e1,e2⟩:=Ĕ ht hn' e;have i1:=hm1.ne;have hn1':Nx s1 (bQ (bp (wL ks))++t1::R):=by
    have:bQ (bp (wL ks))=sy [40]::(bQ (bU 0 (wL ks))++[sy [41]]):=by
     unfold bp;rw[gO,bd,Fv,<-Fu];rfl
    simp_all
   obtain⟨rfl,hf⟩:=Kl ks (fun k hk=>by
    simp_all) hko.1 hn1' (by omega) (by omega) (fun k hk=>by grind) e1
   rw[hts]at e2;obtain⟨rfl,hf2⟩:=gu hf.nx e2;have i2:=hf.ne;have i3:=hf2.ne;refine⟨by rw[hf.nd,lα,iX,hm1.nd],hf2.nx,by omega,?_,?_⟩
   ·rw[hf2.nd,hf.nd,hm1.nd,lε]
   ·rw[hf2.tt,hf.tt,hm1.tt]
def wF {t:Tr}(hw:Wf t)(hv:iD eV t)(he:bo t.op=true):EX t:=Lh hw hv he (Ę t.sz t (Nat.le_refl _) hw hv he)
def YZ {t0:Tk}(h:Gf t0=true)(hx:beginL.any (bv x)=false):eB t0 x=false:=by
 cases hi:eB t0 x with
 |false=>rfl
 |true=>
  unfold Gf at h;unfold eB at hi;simp only[bO,ec,lδ]at h hi;grind
def YY {t:Tr}(hw:Wf t)(hv:iD eV t)(he:bo t.op=true){s:PS}{R:List Tk}(h:Nx s (bQ t.w++R))(hx:beginL.any (bv x)=false):s.is x=false:=by
 obtain⟨t0,r,h1,h2⟩:=Sn hw hv he;rw[h1]at h;rw[Nx.isA h];exact YZ h2 hx
variable {s':PS}
def zB {s:PS}{k n:Int}{R:List Tk}(hk:1<=k/\k<=5)(h:Nx s (bD (ct k)::R))(e:pKind s=some (n,s')):n=k/\Nx s' R/\Sm s s' 0:=by
 obtain⟨-,e⟩:=bb e;have hu:=h.up;have hs:Sm s s.up 0:=⟨(Int.add_zero _).symm,rfl,rfl⟩;have hk':k=1\/k=2\/k=3\/k=4\/k=5:=by omega
 unfold dn kindL at e;simp only[dn,h.isA]at e;rcases hk' with rfl|rfl|rfl|rfl|rfl
 ·rw[show eB (bD (ct 1)) [105,110,116]=true by rfl]at e;simp_all
 ·rw[show eB (bD (ct 2)) [105,110,116]=false by rfl,show eB (bD (ct 2)) [98,111,111,108]=true by rfl]at e;simp_all
 ·rw[show eB (bD (ct 3)) [105,110,116]=false by rfl,show eB (bD (ct 3)) [98,111,111,108]=false by rfl,show eB (bD (ct 3)) [115,116,114,105,110,103]=true by rfl]at e;simp_all
 ·rw[show eB (bD (ct 4)) [105,110,116]=false by rfl,show eB (bD (ct 4)) [98,111,111,108]=false by rfl,show eB (bD (ct 4)) [115,116,114,105,110,103]=false by rfl,show eB (bD (ct 4)) [105,110,116,115]=true by rfl]at e;simp_all
 ·rw[show eB (bD (ct 5)) [105,110,116]=false by rfl,show eB (bD (ct 5)) [98,111,111,108]=false by rfl,show eB (bD (ct 5)) [115,116,114,105,110,103]=false by rfl,show eB (bD (ct 5)) [105,110,116,115]=false by rfl,show eB (bD (ct 5)) [115,116,114,105,110,103,115]=true by rfl]at e;simp_all
def mP {s:PS}{n:LN}{R:List Tk}(hk:bw nm=true)(h:Nx s (bD nm::R))(e:pName s=some (n,s')):n=nm/\Nx s' R/\Sm s s' 0:=by
 rw[(jT hk).2]at h;obtain⟨h1,rfl,h3⟩:=h.name (jJ hk) rfl e;exact⟨h1,h3,(Int.add_zero _).symm,rfl,rfl⟩
def oS {s:PS}{R:List Tk}{x:No}{i:Int}(h:Nx s (sy [59]::R))(e:gL x s=some (i,s')):i=(s.nd.length:Int)/\xF s s' [x] R:=by
 obtain⟨h1,rfl,h3⟩:=acV h e;exact⟨h1,h3,rfl,rfl,rfl⟩
def aeM:([[99,97,108,108],[108,101,116],[105,102],[119,104,105,108,101],[114,101,116,117,114,110],[102,97,105,108],[101,109,105,116],[114,101,109,105,110,100],[99,97,110,99,101,108],[101,108,115,101],[97,99,116,111,114],[115,116,97,116,101],[109,101,116,104,111,100]].all fun o=>tkB (bD o) (kw o))=true:=by rfl
def aeN:([[59],[46],[58],[61],[123],[125],[44],[40],[41]].all fun o=>tkB (bD o) (sy o))=true:=by rfl
def NR {o:LN}(h:o∈[[99,97,108,108],[108,101,116],[105,102],[119,104,105,108,101],[114,101,116,117,114,110],[102,97,105,108],[101,109,105,116],[114,101,109,105,110,100],[99,97,110,99,101,108],[101,108,115,101],[97,99,116,111,114],[115,116,97,116,101],[109,101,116,104,111,100]]):bD o=kw o:=QS (lσ.1 aeM o h)
def C0 {o:LN}(h:o∈[[59],[46],[58],[61],[123],[125],[44],[40],[41]]):bD o=sy o:=QS (lσ.1 aeN o h)
def oQ (ws:Ws)(R:List Tk):bQ (bp ws)++R=sy [40]::(bQ (bU 0 ws)++sy [41]::R):=by
 unfold bp;rw[gO,bd,Fv,<-Fu,List.cons_append,lε];rfl
def Kd (ks:List Tr):Prop:=∀k∈ks,Wf k/\iD eV k/\bo k.op=true
def Kd.of {ks:List Tr}(hw:Ec ks)(hv:oa eV ks)(h:∀k∈ks,bo k.op=true):Kd ks:=fun k hk=>⟨vV hw hk,qo hv hk,h k hk⟩
def Kz {s u:PS}{v:Int}{m:LN}{k:Tr}{ks:List Tr}{R:List Tk}(h1:bw nm=true)(h2:bw m=true)(hk:Kd (k::ks))(h16:ks.length<=16)(hn:Nx s (bQ (bW 7 nm ⟨0,0,m,[],[]⟩ (wL (k::ks)))++R))(h0:0<=s.ne)(hh:s.ne+hT (.n 7 nm ⟨0,0,m,[],[]⟩ (k::ks))<=24)(e:pD (fu q f 0) q s=some (v,u)):
  v=((s.nd.length+eR (k::ks):Nat):Int)/\xF s u ((Tr.n 7 nm ⟨0,0,m,[],[]⟩ (k::ks)).fl s.nd.length) R:=by
 have hh':∀x∈k::ks,s.ne+1+hT x<=24:=fun x hx=>by
  have:=GV (op:=7) (nm:=nm) (v:=⟨0,0,m,[],[]⟩) hx;have:Dz 7=1:=rfl;omega
 have hw:bQ (bW 7 nm ⟨0,0,m,[],[]⟩ (wL (k::ks)))++R=kw [99,97,108,108]::bD nm::sy [40]::(bQ k.w++sy [41]::sy [46]::bD m::(bQ (bp (wL ks))++R)):=by
  show bQ ([[99,97,108,108],nm]++(bp [k.w]++([[46],m]++bp (wL ks))))++R=_;rw[bd,bd,lε,lε,oQ,wz,show bU 1 []=[]from rfl,lν,bd,lε,<-NR (o:=[99,97,108,108]) (by simp),<-C0 (o:=[46]) (by simp)];rfl
 rw[hw]at hn;obtain⟨k1,k2,k3⟩:=hk k (by simp);have hkh:=hh' k (by simp);unfold pD at e;obtain⟨_,s1,e1,e⟩:=aa e;obtain⟨hn1,hm1⟩:=ez hn (by kernel_rfl) e1;obtain⟨n,s2,e2,e⟩:=aa e;obtain⟨rfl,hn2,hm2⟩:=mP h1 hn1 e2;have i1:=hm1.ne;have i2:=hm2.ne;obtain⟨_,s3,e3,e⟩:=aa e;obtain⟨hn3,hm3⟩:=oT hn2 (by kernel_rfl) (by omega) (by omega) e3;have i3:=hm3.ne;obtain⟨key,s4,e4,e⟩:=aa e;obtain⟨rfl,hf4⟩:=wF k1 k2 k3 q f 0 s3 s4 key _ _ (by omega) hn3 (by kernel_rfl) (by kernel_rfl) (by omega) (by omega) e4;have i4:=hf4.ne;obtain⟨_,s5,e5,e⟩:=aa e;obtain⟨hn5,hm5⟩:=mb hf4.nx (by kernel_rfl) (by omega) (by omega) e5;have i5:=hm5.ne;obtain⟨_,s6,e6,e⟩:=aa e;obtain⟨hn6,hm6⟩:=ez hn5 (by kernel_rfl) e6;obtain⟨m',s7,e7,e⟩:=aa e;obtain⟨rfl,hn7,hm7⟩:=mP h2 hn6 e7;have i6:=hm6.ne;have i7:=hm7.ne;obtain⟨l,s8,e8,e⟩:=aa e;obtain⟨rfl,hf8⟩:=Kl ks (fun x hx=>by
  obtain⟨a1,a2,a3⟩:=hk x (by simp[hx]);exact⟨a1,a2,a3,wF a1 a2 a3⟩) h16 hn7 (by omega) (by omega) (fun x hx=>by have:=hh' x (by simp[hx]);omega) e8
 obtain⟨rfl,hf9⟩:=gu hf8.nx e;have i8:=hf8.ne;have i9:=hf9.ne;have j4:s4.nd=s.nd++k.fl s.nd.length:=by rw[hf4.nd,hm3.nd,hm2.nd,hm1.nd]
 have j7:s7.nd=s.nd++k.fl s.nd.length:=by rw[hm7.nd,hm6.nd,hm5.nd,j4]
 have l7:s7.nd.length=s.nd.length+k.sz:=by rw[j7,lα,gB]
 have l3:s3.nd.length=s.nd.length:=by rw[hm3.nd,hm2.nd,hm1.nd]
 refine⟨?_,hf9.nx,by omega,?_,?_⟩
 ·rw[hf8.nd,lα,iX,l7];simp only[eR,Nat.add_assoc]
 ·rw[hf9.nd,hf8.nd,l7,j7,l3];simp only[Tr.fl,iW,eJ,lε]
 ·rw[hf9.tt,hf8.tt,hm7.tt,hm6.tt,hm5.tt,hf4.tt,hm3.tt,hm2.tt,hm1.tt]
def TN {s u:PS}{v:Int}{k:Tr}{R:List Tk}(hw:Wf k)(hv:iD eV k)(ho:m8 k.op=true)(hn:Nx s (sy [61]::(bQ k.w++sy [59]::R)))(h0:0<=s.ne)(hh:s.ne+hT k<=24)(e:kU (fu q f 0) q s=some (v,u)):v=((s.nd.length+k.sz - 1:Nat):Int)/\xF s u (k.fl s.nd.length) (sy [59]::R):=by
 unfold kU at e;obtain⟨_,s1,e1,e⟩:=aa e;obtain⟨hn1,hm1⟩:=ez hn (by kernel_rfl) e1;have i1:=hm1.ne;obtain⟨-,e⟩:=aD e;have main:v=((s1.nd.length+k.sz - 1:Nat):Int)/\xF s1 u (k.fl s1.nd.length) (sy [59]::R):=by
  by_cases hc:bo k.op=true
  ·rcases e with⟨k',-⟩|⟨-,e⟩;case inl=>rw[YY hw hv hc hn1 (by kernel_rfl)]at k';cases k'
   exact wF hw hv hc q f 0 s1 u v _ _ (by omega) hn1 (by kernel_rfl) (by kernel_rfl) (by omega) (by omega) e
  ·cases k with
   |n op nm v' ks=>
    have h7:op=7:=by
     unfold m8 pN at ho;simp only[mκ,bO,lδ]at ho;rcases ho with h|h
     ·exact absurd h hc
     ·exact h
    subst h7;simp only[Wf]at hw;simp only[iD]at hv;obtain⟨g1,g2,g3⟩:=cv7 hw.2.1;rw[g3]at hn1 hh ⊢
    have hko:((Nat.ble 1 (ks.map Tr.op).length&&Nat.ble (ks.map Tr.op).length 17)&&(ks.map Tr.op).all bo)=true:=hw.1;simp only[lγ,lζ,Nat.ble_eq]at hko;have hkd:=Kd.of hw.2.2 hv.2 (fun k hk=>lσ.1 hko.2 _ (List.mem_map_of_mem hk));match ks,hko,hkd,hn1,hh with
    |[],hko,_,_,_=>simp at hko
    |k::ks,hko,hkd,hn1,hh=>
     have hn2:=hn1;simp only[Tr.w]at hn2;rcases e with⟨-,e⟩|⟨k',-⟩;case inr=>
      have:Nx s1 (kw [99,97,108,108]::(bQ (bW 7 nm ⟨0,0,v'.s,[],[]⟩ (wL (k::ks)))).tail++sy [59]::R):=by
       rw[<-NR (o:=[99,97,108,108]) (by simp)];exact hn2
      rw[Nx.isA this,show eB (kw [99,97,108,108]) [99,97,108,108]=true by kernel_rfl]at k';cases k'
     have:=Kz g1 g2 hkd (by have:=hko.1.2;simp at this;omega) hn2 (by omega) (by omega) e;obtain⟨r1,r2⟩:=this;refine⟨?_,r2⟩;rw[r1];simp only[Tr.sz];congr 1
 obtain⟨r1,r2⟩:=main;refine⟨by rw[r1,hm1.nd],r2.nx,by have:=r2.ne;omega,by rw[r2.nd,hm1.nd],r2.tt.trans hm1.tt⟩
def w7 {q f:Nat}(ks:List Tr)(hk:Kd ks)(b:Nat)(ne:Int)(nd0:List No)(tt:Int)(hb:nd0.length=b)(h0:0<=ne)(hh:∀k∈ks,ne+hT k<=24):∀(n i:Nat) (s u:PS) (l':LI) (R:List Tk),i+n=ks.length->s.ne=ne->s.tt=tt->s.nd=nd0++iW (ks.take i) b->
  Nx s (bQ (bU i (wL (ks.drop i)))++sy [41]::R)->jj (fu q f 0) n (eJ b (ks.take i)) s=some (l',u)->l'=eJ b ks/\u.ne=ne/\u.tt=tt/\u.nd=nd0++iW ks b/\Nx u (sy [41]::R)
 |0,i,s,u,l',R,hi,h1,h2,h3,hn,e=>by
  obtain⟨rfl,rfl⟩:=au e;have ht:ks.take i=ks:=mβ (by omega);rw[ht]at h3 ⊢
  rw[List.drop_of_length_le (by omega)]at hn;refine⟨rfl,h1,h2,h3,?_⟩;cases i<;>exact hn
 |n+1,i,s,u,l',R,hi,h1,h2,h3,hn,e=>by
  have hi':i<ks.length:=by omega
  obtain⟨k1,k2,k3⟩:=hk _ (lπ hi');have hh1:=hh _ (lπ hi');have step:∀(w:PS) (t1:Tk) (R':List Tk) (x:Int) (z:PS),(t1=sy [44]\/t1=sy [41])->w.ne=ne->w.tt=tt->w.nd=s.nd->Nx w (bQ ks[i].w++t1::R')->fu q f 0 w=some (x,z)->eJ b (ks.take i)++[x]=eJ b (ks.take (i+1))/\z.ne=ne/\z.tt=tt/\z.nd=nd0++iW (ks.take (i+1)) b/\Nx z (t1::R'):=fun w t1 R' x z ht a1 a2 a3 hw ee=>by
   obtain⟨c1,c2⟩:=KG ht;obtain⟨rfl,hf⟩:=wF k1 k2 k3 q f 0 w z x R' t1 (by omega) hw c1 c2 (by omega) (by omega) ee;have hwl:w.nd.length=b+eR (ks.take i):=by rw[a3,h3,lα,iX,hb]
   refine⟨by rw[iz ks i hi',vm,hwl],hf.ne.trans a1,hf.tt.trans a2,?_,hf.nx⟩
   rw[hf.nd,a3,h3,iz ks i hi',uz,<-h3,<-a3,hwl,a3,h3,lε]
  have hd:wL (ks.drop i)=ks[i].w::wL (ks.drop (i+1)):=by rw[lι hi'];rfl
  have next:∀(t1:Tk) (z:PS),True:=fun _ _=>trivial
  have tokn:∃t1 R',(t1=sy [44]\/t1=sy [41])/\bQ (bU (i+1) (wL (ks.drop (i+1))))++sy [41]::R=t1::R':=by
   rw[wA];cases wL (ks.drop (i+1))with
   |nil=>exact⟨_,_,.inr rfl,rfl⟩
   |cons w r=>exact⟨sy [44],_,.inl rfl,by rw[AZ,gO,QV];rfl⟩
  obtain⟨t1,R',ht,htok⟩:=tokn;rw[hd]at hn;have emp:(eJ b (ks.take i)).isEmpty=Nat.beq i 0:=by
   cases i with
   |zero=>rfl
   |succ i=>
    cases ks with
    |nil=>simp at hi'
    |cons=>rfl
  unfold jj at e;rw[emp]at e;cases i with
  |zero=>
   replace e:(snoc (fu q f 0) (eJ b (ks.take 0))).bnd (jj (fu q f 0) n) s=some (l',u):=e;obtain⟨l1,s1,e1,e⟩:=aa e;obtain⟨x,e1x,-,rfl⟩:=cf e1;rw[wz,bd,lε]at hn;rw[show bU 1 (wL (ks.drop (0+1)))=bU (0+1) (wL (ks.drop (0+1)))from rfl,htok]at hn;obtain⟨g1,g2,g3,g4,g5⟩:=step s t1 R' x s1 ht h1 h2 rfl hn e1x;rw[g1]at e;rw[<-htok]at g5;exact w7 ks hk b ne nd0 tt hb h0 hh n (0+1) s1 u l' R (by omega) g2 g3 g4 g5 e
  |succ i=>
   replace e:(gE [44]).bnd (fun _=>(snoc (fu q f 0) (eJ b (ks.take (i+1)))).bnd (jj (fu q f 0) n)) s=some (l',u):=e
   rw[wA,AZ,gO,QV,bd,List.cons_append,lε]at hn;obtain⟨_,s0,e0,e⟩:=aa e;obtain⟨hn0,hm0⟩:=ez hn (by kernel_rfl) e0;obtain⟨l1,s1,e1,e⟩:=aa e;obtain⟨x,e1x,-,rfl⟩:=cf e1;rw[<-wA (i+1),htok]at hn0;obtain⟨g1,g2,g3,g4,g5⟩:=step s0 t1 R' x s1 ht (by have:=hm0.ne;omega) (hm0.tt.trans h2) hm0.nd hn0 e1x;rw[g1]at e;rw[<-htok]at g5;exact w7 ks hk b ne nd0 tt hb h0 hh n (i+1+1) s1 u l' R (by omega) g2 g3 g4 g5 e
def E_ {s u:PS}{l:LI}{R:List Tk}(ks:List Tr)(hk:Kd ks)(hn:Nx s (bQ (bp (wL ks))++R))(h0:0<=s.ne)(h24:s.ne<24)(hh:∀k∈ks,s.ne+1+hT k<=24)(e:tf (fu q f 0) ks.length s=some (l,u)):l=eJ s.nd.length ks/\xF s u (iW ks s.nd.length) R:=by
 rw[oQ]at hn;obtain⟨_,s1,e1,e⟩:=aa e;obtain⟨l2,s2,e2,e⟩:=aa e;obtain⟨_,s3,e3,e⟩:=aa e;obtain⟨rfl,rfl⟩:=au e;obtain⟨hn1,hm1⟩:=oT hn (by rfl) h0 h24 e1;obtain⟨rfl,g2,g3,g4,g5⟩:=w7 ks hk s.nd.length (s.ne+1) s.nd s.tt rfl (by omega) hh ks.length 0 s1 s2 l2 R (by omega) hm1.ne hm1.tt (by rw[hm1.nd];simp only[List.take_zero,iW,lν]) hn1 (by simpa only[List.take_zero,eJ]using e2);obtain⟨hn3,hm3⟩:=mb g5 (by rfl) (by omega) (by omega) e3;exact⟨rfl,hn3,by have:=hm3.ne;omega,hm3.nd.trans g4,hm3.tt.trans g3⟩
end
end Go.Ab
