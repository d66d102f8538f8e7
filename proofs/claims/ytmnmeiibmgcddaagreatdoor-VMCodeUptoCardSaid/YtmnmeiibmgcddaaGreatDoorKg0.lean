import Derived.Test.YtmnmeiibmgcddaaGreatDoorDcA
import Derived.Test.YtmnmeiibmgcddaaGreatDoorAl
import Derived.Test.YtmnmeiibmgcddaaGreatDoorOg0
import Derived.Laws.BitsLemmas
import Derived.KernelRfl
import Derived.Test.YtmnmeiibmgcddaaGreatDoorOg1
set_option linter.all false
namespace Go.Ab
open Go
set_option maxRecDepth 100000
noncomputable section
structure Va where
 (k n:Int)
 s:LN
 I:LI
 L:List LN
structure Fe where
 name:LN
 kind:Int
 init:Va
structure Cd where
 (op a b:Int)
 v:Va
structure Cm where
 name:LN
 params:LI
 res:Int
 locals:LI
 code:List Cd
structure Ct where
 name:LN
 fields:List Fe
 methods:List Cm
def iE (i:Int):Da:= .int .i64 i
def Va.c (v:Va):LD:=[.int .i64 v.k,.int .i64 v.n,.str v.s,.slice 1 (v.I.map iE),.slice 1 (v.L.map .str)]
def Va.r (v:Va):aA:=⟨v.k,v.n,v.s,v.I.map iE,v.L.map .str⟩
def Va.e (v:Va):Da:= .agg v.c
def Fe.r (f:Fe):cX:=⟨f.name,f.kind,f.init.k,f.init.n,f.init.s,f.init.I.map iE,f.init.L.map .str⟩
def Fe.e (f:Fe):Da:=f.r.e
def Cd.r (x:Cd):au:=⟨x.op,x.a,x.b,x.v.k,x.v.n,x.v.s,x.v.I.map iE,x.v.L.map .str⟩
def Cd.e (x:Cd):Da:=x.r.e
def Cm.r (m:Cm):aj:=⟨m.name,m.params.map iE,m.res,m.locals.map iE,m.code.map Cd.e⟩
def Cm.e (m:Cm):Da:=m.r.e
def Ct.r (t:Ct):ah:=⟨t.name,t.fields.map Fe.e,t.methods.map Cm.e⟩
def Ct.e (t:Ct):Da:=t.r.e
def c4 (c:List Ct):aq:=⟨c.map Ct.e⟩
def KI (v:Va)(K:aA->R):ao (.agg v.c) K=K v.r:=rfl
def dVe (v:Va)(K:aA->R):ao v.r.e K=K v.r:=rfl
def UJ (v:Va)(K:aA->R):ao v.e K=K v.r:=rfl
def Ũ (n:Fe)(K:cX->R):bg n.e K=K n.r:=rfl
def W6 (n:Cd)(K:au->R):bd n.e K=K n.r:=rfl
def GP (n:Cm)(K:aj->R):aR n.e K=K n.r:=rfl
def CU (n:Ct)(K:ah->R):aF n.e K=K n.r:=rfl
def dI (i:Int)(K:Int->R):aJ .i64 (iE i) K=K i:=rfl
def c9:Nat:=1000000000000
def wS {i:Nat}(h:i<c9):ab .i64 ((i:Int)+1)=((i+1:Nat):Int):=by
 unfold c9 at h;rw[cV (by omega) (by omega)];omega
variable {a:Int}
def fp {b:Int}(h:a<b):aK a b=true:=by rw[bT];simpa using h
def Ru {b:Int}(h:¬a<b):aK a b=false:=by rw[bT];simpa using h
def c8 (a:Int):aK a a=false:=Ru (Int.lt_irrefl a)
def qg {α:Type}(kt:TypeDesc)(k:Da)(f:α->Da)(p:α->Bool)(h:∀x,j5 kt k (f x)=some (p x)):∀(l:List α) (i:Nat),cS kt k (l.map f) i=some ((l.findIdx? p).map (i+ ·))
 |[],i=>rfl
 |x::r,i=>by
  simp only[List.map_cons,cS,h,qη];cases p x
  ·simp only[qg kt k f p h r (i+1),Bool.false_eq_true,if_false,Option.map_map];congr 1;cases r.findIdx? p with
   |none=>rfl
   |some j=>simp only[Option.map_some,Function.comp];congr 1;omega
  ·rfl
def mO {β:Type}(o:Option β)(E:R)(K:β->R):R:=match o with|none=>E|some v=>K v
def Hh (o:Option Nat):Int:=match o with|some j=>j|none=> -1
section
def dz {n b:Nat}(h:n<1000000001)(hb:b<=1000):cI n b=true:=by
 unfold cI;rw[lγ,Nat.ble_eq,Nat.ble_eq];constructor
 ·calc (2*n+192)*b<=(2*1000000001+192)*1000:=Nat.mul_le_mul (by omega) hb
   _<=281474976710656:=by decide
 ·omega
def W1 {α:Type}[DecidableEq α](p:α->α->Bool){xs ys:List α}(hl:xs.length=ys.length)(hp:∀x y,p x y=decide (x=y)):(xs.zip ys).findIdx? (fun t=>!p t.1 t.2)=none↔xs=ys:=by
 induction xs generalizing ys with
 |nil=>cases ys with
  |nil=>simp
  |cons y ys=>simp at hl
 |cons x xs ih=>cases ys with
  |nil=>simp at hl
  |cons y ys=>
   simp only[List.length_cons,Nat.add_right_cancel_iff]at hl;simp only[List.zip_cons_cons,qη,hp,lω];by_cases hxy:x=y
   ·simp only[hxy,decide_true,Bool.not_true,Bool.false_eq_true,if_false,true_and,Option.map_eq_none_iff];have:=ih hl;simp only[hp]at this;exact this
   ·simp[hxy]
def VT (c:Int):Bool:=(aV 97 c&&aV c 122)||((aV 65 c&&aV c 90)||az c 95)
def ų (c:Int):Bool:=aV 48 c&&aV c 57
def í (c:Int):Bool:=VT c||ų c
def ϒ (s:LN):Bool:=[[97,99,116,111,114],[115,116,97,116,101],[109,101,116,104,111,100],[108,101,116],[105,102],[101,108,115,101],[119,104,105,108,101],[114,101,116,117,114,110],[102,97,105,108],[99,97,108,108],[101,109,105,116],[114,101,109,105,110,100],[99,97,110,99,101,108],[115,101,108,102],[116,114,117,101],[102,97,108,115,101],[105,110,116],[98,111,111,108],[115,116,114,105,110,103],[105,110,116,115],[115,116,114,105,110,103,115]].any fun t=>cM s t
def qk (a x y:Bool):iL a (some ((pB x),[])) (some ((pB y),[]))=some ((pB (bif a then x else y)),[]):=by cases a<;>rfl
def Uo (a:Bool):(bif a then true else false)=a:=by cases a<;>rfl
def aaZ (a:Bool):(bif a then false else true)=!a:=by cases a<;>rfl
def Uq (a b:Bool):(bif a then b else false)=(a&&b):=by cases a<;>rfl
def H_ (a b:Bool):(bif a then true else b)=(a||b):=by cases a<;>rfl
def iW {α:Type}(l:List α)(p:α->Bool):(l.all fun x=>!p x)=(l.findIdx? p).isNone:=by
 rw[mι,mζ,Option.isNone_iff_eq_none,mσ];simp
def iG {α:Type}(l:List α)(p:α->Bool):l.all p=(l.findIdx? fun x=>!p x).isNone:=by
 rw[<-iW];simp
def tv (s:LN)(K:LN->R):dG (Da.str s) K=K s:=rfl
def RR {n:Nat}(c:Int):Ω (n+1) 199 [.p (.int .u8 c)] []=some (pB (ų c),[]):=by
 apply SS n c;simp only[Fd,qk,Uo,Uq,Bool.and_true,ų]
def AB {n:Nat}(c:Int):Ω (n+1) 255 [.p (.int .u8 c)] []=some (pB (VT c),[]):=by
 apply Ph n c;unfold AQ VT;cases aV 97 c<;>cases aV c 122<;>cases aV 65 c<;>cases aV c 90<;>cases az c 95<;>rfl
def RS {n:Nat}(c:Int):Ω (n+2) 256 [.p (.int .u8 c)] []=some (pB (í c),[]):=by
 apply SU (n+1) c;simp only[Ff,ae (AB (n:=n) c),ae (RR (n:=n) c),ba,aL,aC,qk,Uo,H_,Bool.or_false,í]
def Ch {n:Nat}(s:LN):Ω (n+1) 198 [pS s] []=some (pB (ϒ s),[]):=by
 apply CD n s;simp only[qL,qk,Uo,H_,ϒ,List.any_cons,List.any_nil,Bool.or_false]
def nwC (c:Nat):Bool:=!í (c:Int)
def ϩ (s:LN):Nat:=(s.findIdx? nwC).getD s.length
def ħ {n:Nat}(s:LN)(h:s.length<1501):Ω (n+1504) 195 [pS s,.p (.fn 256 [])] []=some (pI (ϩ s),[]):=by
 apply Ĵ (n+1503) s;unfold Sj ϩ;refine(br s (fun q i=>itL (np _ (n+1503) _) q (s,i)) nwC (fun i=>some (pI i,[])) (some (pI s.length,[])) (fun q i hi=>?_) (fun q=>?_) (by omega)).trans ?_
 ·rw[aQ];simp only[np,fp (show((i:Int)<(s.length:Int)) by omega),aN,bk,show(0:Int)<=(i:Int) by omega,decide_true,cond_true,Int.toNat_natCast,lη hi,bw,wS (show i<c9 by unfold c9;omega),show ∀k:Nat,Int.ofNat k=(k:Int)from fun _=>rfl,ae (RS (n:=n+1501) _),ba,aL,cd];unfold nwC;cases í (s[i]:Int)<;>rfl
 ·rw[aQ];simp only[np,c8,aX]
 ·cases s.findIdx? nwC<;>rfl
def WY (s:LN):Nat:=bif VT ((s.headD 0:Nat):Int)then ϩ s else 0
def Xl {n:Nat}(s:LN)(h:s.length<1501):Ω (n+1505) 197 [pS s] []=some (pI (WY s),[]):=by
 apply XK (n+1504) s;unfold MB WY;cases s with
 |nil=>rfl
 |cons c r=>
  simp only[show cM (c::r) []=false from rfl,aX,show aV 0 0=true from rfl,cond_true,Int.toNat_zero,List.getElem?_cons_zero,bw,show ∀k:Nat,Int.ofNat k=(k:Int)from fun _=>rfl,ae (AB (n:=n+1503) _),ae (ħ (n:=n) _ h),ba,aL,bV,aC,List.headD_cons];cases VT (c:Int)<;>rfl
def nX (s:LN):Bool:=!cM s []&&(aV s.length 32&&(az (WY s) s.length&&!ϒ s))
def sN {n:Nat}(s:LN):Ω (n+1506) 178 [pS s] []=some (pB (nX s),[]):=by
 apply Pf (n+1505) s;by_cases h:s.length<1501
 ·simp only[sT,ae (Xl (n:=n) _ h),ae (Ch (n:=n+1504) s),ba,aL,bV,aC,qk,aaZ,Uq,nX]
 ·have:aV (s.length:Int) 32=false:=by rw[bk];simp only[lζ];omega
  simp only[sT,nX,this,aX,Bool.false_and,Bool.and_false];cases cM s []<;>rfl
def gN (k:Int):Bool:=aV 1 k&&aV k 5
def sM {n:Nat}(k:Int):Ω (n+1) 183 [pI k] []=some (pB (gN k),[]):=by
 apply O7 n k;simp only[AH,qk,Uo,Uq,gN,Bool.and_true]
def Sg {n:Nat}(xs ys:LI)(h:xs.length<1501\/ys.length<1501):Ω (n+1503) 88 [pL 1 (xs.map iE),pL 1 (ys.map iE)] []=some (pB (decide (xs=ys)),[]):=by
 apply Tx (n+1502) (xs.map iE) (ys.map iE);unfold FL;simp only[lα,bp,mJ];by_cases hl:(xs.length:Int)=ys.length
 ·rw[if_pos hl];have hl':xs.length=ys.length:=by omega
  refine(br (xs.zip ys) (fun q i=>itL (jT _ (n+1502) _ _) q (xs.map iE,ys.map iE,(xs.length:Int),i)) (fun p=>!decide (p.1=p.2)) (fun i=>some (pB false,[])) (some (pB true,[])) (fun q i hi=>?_) (fun q=>?_) (by simp;omega)).trans ?_
  ·have hx:i<xs.length:=by simp at hi;omega
   have hy:i<ys.length:=by omega
   rw[aQ];simp only[jT,fp (show((i:Int)<(xs.length:Int)) by omega),aN,aU,be,bh hx,bh hy,bw,dI,wS (show i<c9 by unfold c9;omega),List.getElem_zip,bp];exact lC _ _ _
  ·rw[aQ];simp only[jT,show((xs.zip ys).length:Int)=xs.length by simp;omega,c8,aX]
  ·have:decide (xs=ys)=((xs.zip ys).all fun p=>!(!decide (p.1=p.2))):=by
    rw[mι,mζ,lδ];constructor
    ·rintro rfl p hp
     obtain⟨i,hi,rfl⟩:=qζ hp;simp
    ·intro ha;refine List.ext_getElem hl' fun i h1 h2=>?_
     have:=ha (xs[i],ys[i]) (by rw[<-List.getElem_zip (h:=by simp;omega)];exact lμ _);simpa using this
   rw[this,iW];cases(xs.zip ys).findIdx? fun p=>!decide (p.1=p.2)<;>rfl
 ·rw[if_neg hl];rw[mβ (by rintro rfl;exact hl rfl)]
def Sh {n:Nat}(xs ys:List LN)(h:xs.length<1501\/ys.length<1501):Ω (n+1503) 89 [pL 1 (xs.map .str),pL 1 (ys.map .str)] []=some (pB (decide (xs=ys)),[]):=by
 apply Tz (n+1502) (xs.map .str) (ys.map .str);unfold FM;simp only[lα,bp,mJ];by_cases hl:(xs.length:Int)=ys.length
 ·rw[if_pos hl];have hl':xs.length=ys.length:=by omega
  refine(br (xs.zip ys) (fun q i=>itL (jU _ (n+1502) _ _) q (xs.map .str,ys.map .str,(xs.length:Int),i)) (fun p=>!decide (p.1=p.2)) (fun i=>some (pB false,[])) (some (pB true,[])) (fun q i hi=>?_) (fun q=>?_) (by simp;omega)).trans ?_
  ·have hx:i<xs.length:=by simp at hi;omega
   have hy:i<ys.length:=by omega
   rw[aQ];simp only[jU,fp (show((i:Int)<(xs.length:Int)) by omega),aN,aU,be,bh hx,bh hy,bw,tv,wS (show i<c9 by unfold c9;omega),List.getElem_zip,hM];exact lC _ _ _
  ·rw[aQ];simp only[jU,show((xs.zip ys).length:Int)=xs.length by simp;omega,c8,aX]
  ·have:decide (xs=ys)=((xs.zip ys).all fun p=>!(!decide (p.1=p.2))):=by
    rw[mι,mζ,lδ];constructor
    ·rintro rfl p hp
     obtain⟨i,hi,rfl⟩:=qζ hp;simp
    ·intro ha;refine List.ext_getElem hl' fun i h1 h2=>?_
     have:=ha (xs[i],ys[i]) (by rw[<-List.getElem_zip (h:=by simp;omega)];exact lμ _);simpa using this
   rw[this,iW];cases(xs.zip ys).findIdx? fun p=>!decide (p.1=p.2)<;>rfl
 ·rw[if_neg hl];rw[mβ (by rintro rfl;exact hl rfl)]
def lf {α:Type}(l:List α):Int:=(l.length:Int)
def xJ (v:Va):Bool:=aK v.k 0||aK 5 v.k
def xK (v:Va):Bool:=!az v.n 0&&(!az v.k 1&&(!az v.k 2||!az v.n 1))
def GD (v:Va):Bool:=(!cM v.s []&&!az v.k 3)||((aK 0 (lf v.I)&&!az v.k 4)||(aK 0 (lf v.L)&&!az v.k 5))
def uy (v:Va):Bool:=aK 64 (lf v.s)||(aK 16 (lf v.I)||aK 16 (lf v.L))
def kj (v:Va):Bool:=!xJ v&&(!xK v&&(!GD v&&(!uy v&&v.L.all fun t=>!aK 64 (lf t))))
def eZ (a b:Va):Bool:=az a.k b.k&&(az a.n b.n&&(cM a.s b.s&&(decide (a.I=b.I)&&decide (a.L=b.L))))
def vJ {n:Nat}(a b:Va)(hi:a.I.length<1501\/b.I.length<1501)(hl:a.L.length<1501\/b.L.length<1501):Ω (n+1504) 48 [.p (.agg a.c),.p (.agg b.c)] []=some (pB (eZ a b),[]):=by
 apply XR (n+1503) a.r b.r;unfold MI;show iL (az a.k b.k) _ _=_;have h1:=ae (Sg (n:=n) a.I b.I hi);have h2:=ae (Sh (n:=n) a.L b.L hl);simp only[Va.r,h1,h2,ba,aL,aC,qk,Uo,Uq,eZ,Bool.and_true]
section
variable (cc:af) (n:Nat) (k0:Bool×aA->R) (v:Va)
def vw1:mo cc n k0 v.r=k0 (xJ v,v.r):=by
 unfold mo xJ;show iL (aK v.k 0) _ (iL (aK 5 v.k) _ _)=_;cases aK v.k 0<;>cases aK 5 v.k<;>rfl
def vw2:mq cc n k0 v.r=k0 (xK v,v.r):=by
 unfold mq xK;show iL (!az v.n 0) (iL (!az v.k 1) (iL (!az v.k 2) _ (iL (!az v.n 1) _ _)) _) _=_;cases az v.n 0<;>cases az v.k 1<;>cases az v.k 2<;>cases az v.n 1<;>rfl
def vw3:mt cc n k0 v.r=k0 (!cM v.s []&&!az v.k 3,v.r):=by
 unfold mt;show iL (!cM v.s []) (iL (!az v.k 3) _ _) _=_;cases cM v.s []<;>cases az v.k 3<;>rfl
def vw4:ij cc n k0 v.r=k0 (uy v,v.r):=by
 unfold ij uy lf;show iL (aK 64 (v.s.length:Int)) _ (iL (aK 16 ((v.I.map iE).length:Int)) _ (iL (aK 16 ((v.L.map Da.str).length:Int)) _ _))=_;simp only[lα];cases aK 64 (v.s.length:Int)<;>cases aK 16 (v.I.length:Int)<;>cases aK 16 (v.L.length:Int)<;>rfl
def vw6:mu cc n k0 v.r=k0 (aK 0 (lf v.I)&&!az v.k 4,v.r):=by
 unfold mu lf;show iL (aK 0 ((v.I.map iE).length:Int)) (iL (!az v.k 4) _ _) _=_;simp only[lα];cases aK 0 (v.I.length:Int)<;>cases az v.k 4<;>rfl
def vw7:mw cc n k0 v.r=k0 (aK 0 (lf v.L)&&!az v.k 5,v.r):=by
 unfold mw lf;show iL (aK 0 ((v.L.map Da.str).length:Int)) (iL (!az v.k 5) _ _) _=_;simp only[lα];cases aK 0 (v.L.length:Int)<;>cases az v.k 5<;>rfl
end
def qK {n:Nat}(v:Va):Ω (n+1503) 87 [.p (.agg v.c)] []=some (pB (kj v),[]):=by
 apply Ts (n+1502) v.r;by_cases h:v.L.length<1501;case neg=>
  have h4:uy v=true:=by
   unfold uy lf;rw[mπ,mπ];exact .inr (.inr (fp (by omega)))
  unfold w9 kj GD;simp only[vw1,vw2,vw3,vw4,vw6,vw7,h4];cases xJ v<;>cases xK v<;>cases(!cM v.s []&&!az v.k 3)<;>cases(aK 0 (lf v.I)&&!az v.k 4)<;>cases(aK 0 (lf v.L)&&!az v.k 5)<;>rfl
 have hl:itL (dJ (cq lay0.tab (n+1502)) (n+1502) (some (pB false,[])) (fun(l18,i19,i20)=>some (pB true,[]))) (n+1502) (v.L.map .str,(v.L.length:Int),0)=some (pB (v.L.all fun t=>!aK 64 (lf t)),[]):=by
  refine(br v.L (fun q i=>itL (dJ _ (n+1502) _ _) q (v.L.map .str,(v.L.length:Int),i)) (fun t=>aK 64 (lf t)) (fun i=>some (pB false,[])) (some (pB true,[])) (fun q i hi=>?_) (fun q=>?_) (by omega)).trans ?_
  ·rw[aQ];simp only[dJ,fp (show((i:Int)<(v.L.length:Int)) by omega),aN,aU,be,bh hi,bw,tv,wS (show i<c9 by unfold c9;omega)];exact lC _ _ _
  ·rw[aQ];simp only[dJ,c8,aX]
  ·rw[iW];cases v.L.findIdx? fun t=>aK 64 (lf t)<;>rfl
 unfold w9 kj GD;simp only[vw1,vw2,vw3,vw4,vw6,vw7];show iL _ _ (iL _ _ (iL _ (iL _ _ (iL _ _ (itL (dJ _ _ _ _) _ (v.L.map .str,((v.L.map Da.str).length:Int),0)))) (iL _ (iL _ _ (iL _ _ (itL (dJ _ _ _ _) _ (v.L.map .str,((v.L.map Da.str).length:Int),0)))) (iL _ _ (iL _ _ (itL (dJ _ _ _ _) _ (v.L.map .str,((v.L.map Da.str).length:Int),0)))))))=_;rw[lα,hl];cases xJ v<;>cases xK v<;>cases(!cM v.s []&&!az v.k 3)<;>cases(aK 0 (lf v.I)&&!az v.k 4)<;>cases(aK 0 (lf v.L)&&!az v.k 5)<;>cases uy v<;>rfl
end
section
variable {m:Nat}
def fuel {c:Nat}(h:c+1<=m):∃k,m=k+1/\c<=k:=⟨m - 1,by omega,by omega⟩
def uD {c:Nat}(h:c<=m):∃k,m=k+c:=⟨m - c,by omega⟩
def v0:Va:=⟨0,0,[],[],[]⟩
def dQ (b:Bool):R:=some (pB b,[])
def wg {α:Type}(p:α->Bool)(l:List α):aV 0 (Hh (l.findIdx? p))=l.any p:=by
 cases h:l.findIdx? p with
 |none=>
  rw[show aV 0 (Hh none)=false from rfl,eq_comm,qκ];intro x hx;simpa using mσ.1 h x hx
 |some j=>
  obtain⟨hj,h1,-⟩:=qθ.1 h;rw[show aV 0 (Hh (some j))=true by rw[bk];simp[Hh],eq_comm,List.any_eq_true];exact⟨_,lμ hj,h1⟩
def Ϻ (o:Int):Bool:=(aV 2 o&&aV o 5)||(az o 26||(az o 27||(aV 28 o&&aV o 30)))
def RO (o:Int)(hm:1<=m):Ω m 243 [pI o] []=dQ (Ϻ o):=by
 obtain⟨m,rfl,-⟩:=fuel hm;apply SL m o;unfold E6 Ϻ;cases aV 2 o<;>cases aV o 5<;>cases az o 26<;>cases az o 27<;>cases aV 28 o<;>cases aV o 30<;>rfl
def fT (x n:Int):Bool:=aV 0 x&&aK x n
def Az (x n:Int)(hm:1<=m):Ω m 244 [pI x,pI n] []=dQ (fT x n):=by
 obtain⟨m,rfl,-⟩:=fuel hm;apply Pd m x n;unfold AN fT;cases aV 0 x<;>cases aK x n<;>rfl
def fC (c:List Ct)(a b:Int):Option Cm:=(dK c a).bind fun t=>dK t.methods b
def EJ {α:Type}(l:List α)(i:Int):fT i (l.length:Int)=(dK l i).isSome:=by
 unfold fT dK;rw[bk,bT];by_cases h:0<=i
 ·simp only[h,decide_true,Bool.true_and,cond_true,if_true];by_cases h2:i<(l.length:Int)
  ·rw[lκ h2,eq_comm,Option.isSome_iff_exists];exact⟨_,lη (by omega)⟩
  ·rw[mβ h2,lυ (by omega)];rfl
 ·simp[h]
def gY (c:List Ct)(t:Ct)(m:Cm)(x:Cd):Bool:=
 (!aK x.op 1&&(!aK 36 x.op&&(Ϻ x.op||az x.a 0)&&(az x.op 30||az x.b 0)))&&((az x.op 1||eZ x.v v0)&&
  (bif az x.op 1 then kj x.v&&!az x.v.k 0 else bif az x.op 2 then fT x.a m.locals.length else bif az x.op 3 then fT x.a m.locals.length else bif az x.op 4 then fT x.a t.fields.length else bif az x.op 5 then fT x.a t.fields.length else bif az x.op 26 then fT x.a 17 else bif az x.op 27 then fT x.a 17 else bif az x.op 28 then fT x.a m.code.length else bif az x.op 29 then fT x.a m.code.length else bif az x.op 30 then(fC c x.a x.b).isSome else true))
def iBo (a:Bool):iL a (some (pB true,[])) (some (pB false,[]))=dQ a:=by cases a<;>rfl
def iBn (a:Bool):iL a (some (pB false,[])) (some (pB true,[]))=dQ (!a):=by cases a<;>rfl
def iBf (a x:Bool):iL a (some (pB false,[])) (dQ x)=dQ (!a&&x):=by cases a<;>rfl
def iBa (a x:Bool):iL a (dQ x) (some (pB false,[]))=dQ (a&&x):=by cases a<;>rfl
section
variable {m:Nat} (c:List Ct) (t:Ct) (me:Cm) (x:Cd)
def İ {K}(hm:1<=m):kE (cq lay0.tab m) m K (c4 c,t.r,me.r,x.r)=K (!(!aK x.op 1&&(!aK 36 x.op&&(Ϻ x.op||az x.a 0)&&(az x.op 30||az x.b 0))),c4 c,t.r,me.r,x.r):=by
 unfold kE;simp only[Cd.r,ae (RO (m:=m) x.op hm),ba,aL,aC];cases aK x.op 1<;>cases aK 36 x.op<;>cases Ϻ x.op<;>cases az x.a 0<;>cases az x.op 30<;>cases az x.b 0<;>rfl
def ı {K}(hm:1504<=m):kF (cq lay0.tab m) m K (c4 c,t.r,me.r,x.r)=K (!(az x.op 1||eZ x.v v0),c4 c,t.r,me.r,x.r):=by
 unfold kF;obtain⟨k,rfl⟩:=uD hm;have h:=vJ (n:=k) x.v v0 (.inr (by decide)) (.inr (by decide));rw[show v0.c=[.int .i64 0,.int .i64 0,.str [],.slice 1 [],.slice 1 []]from rfl]at h
 simp only[Va.c]at h;simp only[Cd.r,ae h,ba,aL,aC];cases az x.op 1<;>cases eZ x.v v0<;>rfl
def Ĳ {K}(hm:1504<=m):kG (cq lay0.tab m) m K x.r=K (kj x.v&&!az x.v.k 0,x.r):=by
 unfold kG;obtain⟨k,rfl⟩:=uD hm;have h:=qK (n:=k+1) x.v;simp only[Va.c]at h;simp only[Cd.r,ae h,ba,aL,aC];cases az x.v.k 0<;>cases kj x.v<;>rfl
def ĳ {K}(hm:1<=m):kH (cq lay0.tab m) m K (c4 c,x.r)=K ((fC c x.a x.b).isSome,c4 c,x.r):=by
 unfold kH;simp only[Cd.r,c4,lα,ae (Az (m:=m) _ _ hm),ba,aL,aC,aU,be,CU,Ct.r];unfold fC;rw[EJ];cases h:dK c x.a with
 |none=>rfl
 |some t=>rw[Option.isSome_some,aN,bw,EJ,Option.bind_some];cases(dK t.methods x.b).isSome<;>rfl
def OC (hm:1506<=m):Ω m 187 [.p (c4 c).e,.p t.e,.p me.e,.p x.e] []=dQ (gY c t me x):=by
 replace hm:=fuel hm;obtain⟨m,rfl,hm⟩:=hm;apply Pc m (c4 c) t.r me.r x.r;unfold AM gY;rw[İ c t me x (by omega)];simp only[ı c t me x (m:=m) (by omega),Ĳ x (m:=m) (by omega),ĳ c x (m:=m) (by omega)];simp only[Cd.r,Cm.r,Ct.r,lα,ae (Az (m:=m) _ _ (by omega)),ba,aL,aC,iBo];cases(!aK x.op 1&&(!aK 36 x.op&&(Ϻ x.op||az x.a 0)&&(az x.op 30||az x.b 0)))
 ·rfl
 cases(az x.op 1||eZ x.v v0)
 ·rfl
 cases az x.op 1<;>cases az x.op 2<;>cases az x.op 3<;>cases az x.op 4<;>cases az x.op 5<;>(try rfl)<;>cases az x.op 26<;>cases az x.op 27<;>(try rfl)<;>cases az x.op 28<;>cases az x.op 29<;>cases az x.op 30<;>rfl
def RP (hm:1507<=m):Ω m 186 [.p x.e,.box 0 0,.box 1 0,.box 2 0] [.box [pL 3 (c.map Ct.e)],t.r.b,me.r.b]=some (pB (!gY c t me x),[.box [pL 3 (c.map Ct.e)],t.r.b,me.r.b]):=by
 replace hm:=fuel hm;obtain⟨m,rfl,hm⟩:=hm;apply SM m (c.map Ct.e) t.r me.r x.r;unfold E7;have h:=ae (OC c t me x hm);change ∀k,cq lay0.tab m 187 [.p (.agg [.slice 3 (c.map Ct.e)]),.p (.agg [.str t.r.Name,.slice 7 t.r.Fields,.slice 5 t.r.Methods]),.p (.agg [.str me.r.Name,.slice 1 me.r.Params,.int .i64 me.r.Result,.slice 1 me.r.Locals,.slice 8 me.r.Code]),.p x.r.e] [] k=k _ _ at h;simp only[h,ba,aL,aC];cases gY c t me x<;>rfl
def R1 (hl:me.code.length<1501)(hm:3010<=m)(q:List Cd)(hq:q.length<1501):Ω m 242 [pL 8 (q.map Cd.e),.fn 186 [.box 0 0,.box 1 0,.box 2 0]] [.box [pL 3 (c.map Ct.e)],t.r.b,me.r.b]=some (pI (Hh (q.findIdx? fun x=>!gY c t me x)),[.box [pL 3 (c.map Ct.e)],t.r.b,me.r.b]):=by
 replace hm:=fuel hm;obtain⟨m,rfl,hm⟩:=hm;apply Ta m (c.map Ct.e) t.r me.r (q.map Cd.e);unfold Fs;refine(br q (fun k i=>itL (jP _ m _ _) k (q.map Cd.e,((q.map Cd.e).length:Int),i,c4 c,t.r,me.r)) (fun x=>!gY c t me x) (fun i=>some (pI i,[.box [pL 3 (c.map Ct.e)],t.r.b,me.r.b])) (some (pI (-1),[.box [pL 3 (c.map Ct.e)],t.r.b,me.r.b])) (fun k i hi=>?_) (fun k=>?_) (by omega)).trans ?_
 ·rw[aQ];have h:=ae (RP c t me q[i] (m:=m) (by omega));simp only[jP,lα,fp (show((i:Int)<(q.length:Int)) by omega),aN,aU,be,bh hi,bw,W6,wS (show i<c9 by unfold c9;omega)];refine(h _).trans ?_;simp only[ba,aL];refine(cd _ _).trans ?_;exact lC _ _ _
 ·rw[aQ];simp only[jP,lα,c8,aX];rfl
 ·cases q.findIdx? fun x=>!gY c t me x<;>rfl
def RX (hl:me.code.length<1501)(hm:3011<=m)(q:List Cd)(hq:q.length<1501):Ω m 185 [pL 8 (q.map Cd.e),.fn 186 [.box 0 0,.box 1 0,.box 2 0]] [.box [pL 3 (c.map Ct.e)],t.r.b,me.r.b]=some (pB (q.any fun x=>!gY c t me x),[.box [pL 3 (c.map Ct.e)],t.r.b,me.r.b]):=by
 replace hm:=fuel hm;obtain⟨m,rfl,hm⟩:=hm;apply S7 m (c.map Ct.e) t.r me.r (q.map Cd.e);unfold Fo;refine(ae (R1 c t me hl hm q hq) _).trans ?_;simp only[ba,bV];refine(cd _ _).trans ?_;rw[wg];cases q.any _<;>rfl
end
def OA (k:Int)(hm:2<=m):Ω m 241 [pI k] []=dQ (!gN k):=by
 obtain⟨m,rfl⟩:=uD hm;apply O8 (m+1) k;unfold AI;rw[ae (sM (n:=m) k)];simp only[ba,aL,aC,iBn];rfl
def Xm (l:LI)(hl:l.length<1501)(hm:1510<=m):Ω m 302 [pL 1 (l.map iE),.p (.fn 241 [])] []=some (pI (Hh (l.findIdx? fun k=>!gN k)),[]):=by
 replace hm:=fuel hm;obtain⟨m,rfl,hm⟩:=hm;apply XL m (l.map iE);unfold MC;refine(br l (fun k i=>itL (ll _ m _ _) k (l.map iE,((l.map iE).length:Int),i)) (fun k=>!gN k) (fun i=>some (pI i,[])) (some (pI (-1),[])) (fun k i hi=>?_) (fun k=>?_) (by omega)).trans ?_
 ·rw[aQ];simp only[ll,lα,fp (show((i:Int)<(l.length:Int)) by omega),aN,aU,be,bh hi,bw,dI,wS (show i<c9 by unfold c9;omega),ae (OA (m:=m) _ (by omega)),ba,aL,aC];exact lC _ _ _
 ·rw[aQ];simp only[ll,lα,c8,aX]
 ·cases l.findIdx? fun k=>!gN k<;>rfl
def RW (l:LI)(hl:l.length<1501)(hm:1511<=m):Ω m 240 [pL 1 (l.map iE),.p (.fn 241 [])] []=dQ (l.any fun k=>!gN k):=by
 replace hm:=fuel hm;obtain⟨m,rfl,hm⟩:=hm;apply S6 m (l.map iE);unfold Fm;rw[ae (Xm l hl hm)];simp only[ba,bV];refine(cd _ _).trans ?_;rw[wg,iBo];rfl
def wH (l:LI)(hl:l.length<1501)(hm:1512<=m):Ω m 184 [pL 1 (l.map iE)] []=dQ (l.all gN):=by
 replace hm:=fuel hm;obtain⟨m,rfl,hm⟩:=hm;apply J8 m (l.map iE);unfold wT;rw[ae (RW l hl hm)];simp only[ba,aL];refine(cd _ _).trans ?_;rw[iBn,List.all_eq_not_any_not];rfl
def Jw (xs ys:LI)(h:xs.length<1501\/ys.length<1501)(hm:1504<=m):Ω m 110 [pL 1 (xs.map iE),pL 1 (ys.map iE)] []=dQ (decide (xs=ys)):=by
 replace hm:=fuel hm;obtain⟨m,rfl,hm⟩:=hm;apply ķ m (xs.map iE) (ys.map iE);unfold Sm;simp only[lα,bp,mJ];by_cases hl:(xs.length:Int)=ys.length
 ·rw[if_pos hl];have hl':xs.length=ys.length:=by omega
  refine(br (xs.zip ys) (fun q i=>itL (nr _ m _ _) q (xs.map iE,ys.map iE,(xs.length:Int),i)) (fun p=>!decide (p.1=p.2)) (fun i=>some (pB false,[])) (some (pB true,[])) (fun q i hi=>?_) (fun q=>?_) (by simp;omega)).trans ?_
  ·have hx:i<xs.length:=by simp at hi;omega
   have hy:i<ys.length:=by omega
   rw[aQ];simp only[nr,fp (show((i:Int)<(xs.length:Int)) by omega),aN,aU,be,bh hx,bh hy,bw,dI,wS (show i<c9 by unfold c9;omega),List.getElem_zip,bp];exact lC _ _ _
  ·rw[aQ];simp only[nr,show((xs.zip ys).length:Int)=xs.length by simp;omega,c8,aX]
  ·have:decide (xs=ys)=((xs.zip ys).findIdx? fun p=>!decide (p.1=p.2)).isNone:=by
    rw[mι,lδ,Option.isNone_iff_eq_none];exact(W1 (fun x y=>decide (x=y)) hl' fun _ _=>rfl).symm
   rw[this];cases(xs.zip ys).findIdx? fun p=>!decide (p.1=p.2)<;>rfl
 ·rw[if_neg hl];rw[mβ (by rintro rfl;exact hl rfl)]
structure SzM (m:Cm):Prop where
 p:m.params.length<1501
 l:m.locals.length<1501
 c:m.code.length<1501
def vC (c:List Ct)(t:Ct)(m:Cm):Bool:=
 !aK 4 m.params.length&&(m.params.all gN&&((az m.res 0||gN m.res)&&(!aK 8 m.locals.length&&(m.locals.all gN&&(!aK m.locals.length m.params.length&&(decide (m.locals.take m.params.length=m.params)&&(!az m.code.length 0&&m.code.all (gY c t m))))))))
def Xi (c:List Ct)(t:Ct)(me:Cm)(hz:SzM me)(hm:3013<=m):Ω m 107 [.p (c4 c).e,.p t.e,.p me.e] []=dQ (vC c t me):=by
 replace hm:=fuel hm;obtain⟨m,rfl,hm⟩:=hm;apply XH m (c4 c) t.r me.r;unfold My vC;have h5:=ae (RX c t me hz.c (m:=m) (by omega) me.code hz.c);change ∀k,cq lay0.tab m _ [pL 8 (me.code.map Cd.e),.fn _ _] [.box [pL 3 (c.map Ct.e)],.box [pS t.name,pL 7 (t.fields.map Fe.e),pL 5 (t.methods.map Cm.e)],.box [pS me.name,pL 1 (me.params.map iE),pI me.res,pL 1 (me.locals.map iE),pL 8 (me.code.map Cd.e)]] k=k _ [.box [pL 3 (c.map Ct.e)],.box [pS t.name,pL 7 (t.fields.map Fe.e),pL 5 (t.methods.map Cm.e)],.box [pS me.name,pL 1 (me.params.map iE),pI me.res,pL 1 (me.locals.map iE),pL 8 (me.code.map Cd.e)]]at h5;obtain⟨k,rfl⟩:∃k,m=k+1:=⟨m - 1,by omega⟩
 have h6:aV (me.params.length:Int) (me.locals.length:Int)=!aK (me.locals.length:Int) (me.params.length:Int):=by
  rw[bk,bT,<-decide_not];exact decide_eq_decide.2 (by omega)
 simp only[Cm.r,c4,Ct.r,lα,ae (wH me.params hz.p (m:=k+1) (by omega)),ae (wH me.locals hz.l (m:=k+1) (by omega)),ae (sM (n:=k) me.res),h5,Int.toNat_natCast,Nat.sub_zero,List.drop_zero,<-List.map_take,ae (Jw (me.locals.take me.params.length) me.params (m:=k+1) (.inr hz.p) (by omega)),ba,aL,aC,h6];simp only[cd,iBn,iBf,iBa];rw[<-List.all_eq_not_any_not (p:=gY c t me)];cases aK 4 (me.params.length:Int);case true=>rfl
 cases me.params.all gN;case false=>rfl
 cases az me.res 0<;>cases gN me.res<;>cases aK 8 (me.locals.length:Int)<;>cases me.locals.all gN<;>cases aK (me.locals.length:Int) (me.params.length:Int)<;>rfl
end
def kg (n:Int):Prop:= -9223372036854775808<=n/\n<=9223372036854775807
def Ro (n:Int):ab .i64 n=IntKind.i64.wrap n:= @gV ⟨fun _=>0⟩ .i64 n
def î (n:Int):kg (ab .i64 n):=by
 rw[Ro,IntKind.wrap_i64];unfold kg;omega
structure Wk (v:Va):Prop where
 n:kg v.n
 i:∀x∈v.I,kg x
 s:v.s.length<=64
 I:v.I.length<=16
 L:v.L.length<=16
 e:∀t∈v.L,t.length<=64
 k4:v.k=4->v.L=[]
 kn:v.k≠4->v.I=[]
 k3:v.k≠3->v.s=[]
def o_ (r:Int×Int):R:=some (.tup [pI r.1,pI r.2],[])
def ccZ:af:=fun _ _ _ _=>none
def Rw (P:Int×Int->Prop)(G:R):Prop:=∃r,G=o_ r/\P r
def Yc {P:Int×Int->Prop}{b:Bool}{A B:R}(h:b=true->Rw P A)(g:b=false->Rw P B):Rw P (iL b A B):=by cases b;exact g rfl;exact h rfl
def è {x:Int}(y:Int)(h:kg x):kg (Int.tmod x y):=by
 unfold kg at h ⊢
 rcases Int.le_total 0 x with hx|hx
 ·have:=Int.tmod_nonneg y hx;have h2:Int.tmod x y<=x:=by
   have:=Int.natAbs_tmod x y;have h3:=Nat.mod_le x.natAbs y.natAbs;omega
  omega
 ·have h2:x<=Int.tmod x y/\Int.tmod x y<=0:=by
   have:=Int.natAbs_tmod x y;have h3:=Nat.mod_le x.natAbs y.natAbs;have h4:Int.tmod x y<=0:=by
    have:=Int.tmod_nonneg y (show 0<= -x by omega);rw[Int.neg_tmod]at this;omega
   omega
  omega
def Č (o:LN){x:Int}(y:Int)(hx:kg x):Rw (fun r=>kg r.1) (qM ccZ 0 o x y):=by
 have w (a b:Int) (h:kg a):Rw (fun r=>kg r.1) (o_ (a,b)):=⟨_,rfl,h⟩;have z:kg 0:=by unfold kg;omega
 unfold qM pU pV pW;repeat' (refine Yc (fun _=>?_) (fun _=>?_))
 all_goals first|exact w _ _ z|exact w _ _ (î _)|exact w _ _ (è _ hx)|simp_all
def e_ (o:LN)(x y:Int):Int×Int:=Classical.epsilon fun r=>qM ccZ 0 o x y=o_ r/\kg r.1
variable {m:Nat}
def ES (o:LN)(x y:Int)(hx:kg x)(hm:1<=m):Ω m 297 [pS o,pI x,pI y] []=o_ (e_ o x y):=by
 obtain⟨m,rfl,-⟩:=fuel hm;apply Td m o x y;exact(Classical.epsilon_spec (Č o y hx)).1
def ý (o:LN){x:Int}(y:Int)(hx:kg x):kg (e_ o x y).1:=(Classical.epsilon_spec (Č o y hx)).2
def Yr (b:Bool):Va:=⟨2,bif b then 1 else 0,[],[],[]⟩
def ϊ (n:Int):Va:=⟨1,n,[],[],[]⟩
def vE (r:Va×Int):R:=some (.tup [.p r.1.e,pI r.2],[])
def wM (b:Bool)(hm:1<=m):Ω m 296 [pB b] []=some (.p (Yr b).e,[]):=by
 obtain⟨m,rfl,-⟩:=fuel hm;apply Kg m b;cases b<;>rfl
def pO (n:Int)(hm:1<=m):Ω m 298 [pI n] []=some (.p (ϊ n).e,[]):=by
 obtain⟨m,rfl,-⟩:=fuel hm;apply Kj m n;rfl
def ġ (o:LN)(v:Va):Va×Int:=bif cM o [33]then(Yr (az v.n 0),0)else(ϊ (e_ [45] 0 v.n).1,(e_ [45] 0 v.n).2)
def Mr:kg 0:=by unfold kg;omega
def R4 (o:LN)(v:Va)(hm:2<=m):Ω m 229 [pS o,.p v.e] []=vE (ġ o v):=by
 replace hm:=fuel hm;obtain⟨m,rfl,hm⟩:=hm;apply Te m o v.r;unfold Fu ġ;cases cM o [33]with
 |true=>
  simp only[aN,ae (wM (m:=m) (az v.r.N 0) hm),ba,aC,Va.e,KI,cond_true];rfl
 |false=>
  have e:=ES (m:=m) [45] 0 v.n Mr hm;unfold o_ at e;simp only[aX,show v.r.N=v.n from rfl,ae e,dB,aY,ba,bV,aC,ae (pO (m:=m) _ hm),Va.e,KI,cond_false];rfl
def QC (a b:Va):Bool:=bif az a.k 3 then Ä a.s b.s else aK a.n b.n
def Xr (a b:Va)(hm:1<=m):Ω m 299 [.p a.e,.p b.e] []=some (pB (QC a b),[]):=by
 replace hm:=fuel hm;obtain⟨m,rfl,hm⟩:=hm;apply XQ m a.r b.r;unfold MH QC;show iL (az a.k 3) _ _=_;cases az a.k 3<;>rfl
def Ă (o:LN)(a b:Va):Va×Int:=
 bif cM o [61,61]then(Yr (eZ a b),0)else
 bif cM o [33,61]then(Yr (!eZ a b),0)else
 bif cM o [60]then(Yr (QC a b),0)else
 bif cM o [60,61]then(Yr (!QC b a),0)else
 bif cM o [62]then(Yr (QC b a),0)else
 bif cM o [62,61]then(Yr (!QC a b),0)else
 bif cM o [43]&&az a.k 3 then(bif aK 64 (a.s.length+b.s.length:Nat)then(v0,5)else(⟨3,0,a.s++b.s,[],[]⟩,0))else
 (ϊ (e_ o a.n b.n).1,(e_ o a.n b.n).2)
def OF (o:LN)(a b:Va)(ha:Wk a)(hb:Wk b)(hm:1510<=m):Ω m 231 [pS o,.p a.e,.p b.e] []=vE (Ă o a b):=by
 replace hm:=fuel hm;obtain⟨m,rfl,hm⟩:=hm;apply Pm m o a.r b.r;have hI:=ha.I;have hL:=ha.L;have hs:=ha.s;have hs2:=hb.s;have es:=vJ (n:=m - 1504) a b (.inl (by omega)) (.inl (by omega));rw[show m - 1504+1504=m by omega]at es;have es':=ae es;have el:=fun a b=>ae (Xr (m:=m) a b (by omega))
 have eb:=fun b=>ae (wM (m:=m) b (by omega))
 have ei:=fun n=>ae (pO (m:=m) n (by omega))
 have ea:=ES (m:=m) o a.n b.n ha.n (by omega);unfold o_ at ea;have ea':=ae ea;unfold AV Ă;simp only[show a.r.e=Da.agg a.c from rfl,show b.r.e=Da.agg b.c from rfl,es',Va.e]at el eb ei ea' ⊢
 simp only[es',el,eb,ei,ba,aL,aC,KI,show a.r.N=a.n from rfl,show b.r.N=b.n from rfl,show a.r.S=a.s from rfl,show b.r.S=b.s from rfl,show a.r.Kind=a.k from rfl,ea',dB,aY,bV];have hw:ab .i64 ((a.s.length:Int)+(b.s.length:Int))=((a.s.length+b.s.length:Nat):Int):=by rw[cV (by omega) (by omega)];omega
 have hb2:Nat.ble (a.s.length+b.s.length) oU=true:=by rw[Nat.ble_eq];exact qδ (show a.s.length+b.s.length<=128 by omega) (by decide)
 rw[hw,hb2];cases cM o [61,61]
 ·cases cM o [33,61]
  ·cases cM o [60]
   ·cases cM o [60,61]
    ·cases cM o [62]
     ·cases cM o [62,61]
      ·cases cM o [43]<;>cases az a.k 3<;>cases aK 64 (a.s.length+b.s.length:Nat)<;>rfl
      ·rfl
     ·rfl
    ·rfl
   ·rfl
  ·rfl
 ·rfl
def kh (v:Va)(k:Int):Bool:=az v.k k&&kj v
def Cj (v:Va)(k:Int)(hm:1504<=m):Ω m 47 [.p v.e,pI k] []=some (pB (kh v k),[]):=by
 replace hm:=fuel hm;obtain⟨m,rfl,hm⟩:=hm;apply XP m v.r k;have e:=qK (n:=m - 1503) v;rw[show m - 1503+1503=m by omega]at e;unfold MG kh;show iL (az v.k k) (cq lay0.tab m 87 [.p (.agg v.c)] [] _) _=_;rw[ae e];simp only[ba,aL,aC,qk,Uq]
def yg:List Va->LI->Bool
 |[],[]=>true
 |v::l,k::m=>kh v k&&yg l m
 |_,_=>false
def Ha:∀(l:List Va) (m:LI),l.length=m.length->yg l m=(l.zip m).all fun p=>kh p.1 p.2
 |[],[],_=>rfl
 |v::l,k::m,h=>by
  simp only[yg,List.zip_cons_cons,List.all_cons,Ha l m (by simpa using h)]
def G9:∀(l:List Va) (m:LI),l.length≠m.length->yg l m=false
 |[],[],h=>absurd rfl h
 |[],_::_,_=>rfl
 |_::_,[],_=>rfl
 |v::l,k::m,h=>by
  simp only[yg,G9 l m (by simpa using h),Bool.and_false]
structure Ef where
 k:Int
 n:LN
 (a b:Int)
def Ef.e (x:Ef):Da:= .agg [.int .i64 x.k,.str x.n,.int .i64 x.a,.int .i64 x.b]
def Rs:Ef:=⟨0,[],0,0⟩
def td (q:Int)(l:List Va)(c:Nat):Option (Ef×Int):=
 match l with
 |[]=>none
 |a::r=>
  bif aV 16 (c:Int)then some (Rs,5)else bif cM a.s []then some (Rs,5)else bif aK 32 (a.s.length:Int)then some (Rs,5)else
  bif az q 1 then(match r with|b::_=>some (⟨q,a.s,b.n,0⟩,0)|_=>none)else
  bif az q 2 then(match r with|b::d::_=>bif aK b.n 1 then some (Rs,5)else bif aK 1073741824 b.n then some (Rs,5)else bif aK d.n 1 then some (Rs,5)else bif aK 1073741824 d.n then some (Rs,5)else some (⟨q,a.s,b.n,d.n⟩,0)|_=>none)else
  some (⟨q,a.s,0,0⟩,0)
def QU (r:Ef×Int):R:=some (.tup [.p r.1.e,pI r.2],[])
def gD {α:Type}(f:α->R)(b:Bool)(x y:Option α)(X Y:R){r:α}(h:(bif b then x else y)=some r)(hx:x=some r->X=f r)(hy:y=some r->Y=f r):iL b X Y=f r:=by
 cases b
 ·exact hy h
 ·exact hx h
def ĩ (q:Int)(l:List Va)(c:Nat){r:Ef×Int}(h:td q l c=some r)(hm:1<=m):Ω m 237 [pI q,pL 5 (l.map Va.e),pI c] []=QU r:=by
 replace hm:=fuel hm;obtain⟨m,rfl,hm⟩:=hm;apply ĸ m q (l.map Va.e) c;unfold Sn;unfold td at h;have z:∀y:Ef×Int,some y=some r->QU y=QU r:=fun y e=>by rw[Option.some.inj e]
 match l,h with
 |a::t,h=>
  show iL (aV 16 (c:Int)) _ (iL (cM a.s []) _ (iL (aK 32 (a.s.length:Int)) _ (iL (az q 1) _ (iL (az q 2) _ _))))=_;refine gD QU _ _ _ _ _ h (z _) fun h=>?_
  refine gD QU _ _ _ _ _ h (z _) fun h=>?_
  refine gD QU _ _ _ _ _ h (z _) fun h=>?_
  refine gD QU _ _ _ _ _ h (fun h=>?_) fun h=>?_
  ·match t,h with
   |b::_,h=>exact z _ h
  refine gD QU _ _ _ _ _ h (fun h=>?_) (z _);match t,h with
  |b::d::_,h=>
   show iL (aK b.n 1) _ (iL (aK 1073741824 b.n) _ (iL (aK d.n 1) _ (iL (aK 1073741824 d.n) _ _)))=_;refine gD QU _ _ _ _ _ h (z _) fun h=>?_
   refine gD QU _ _ _ _ _ h (z _) fun h=>?_
   refine gD QU _ _ _ _ _ h (z _) fun h=>?_
   exact gD QU _ _ _ _ _ h (z _) (z _)
def aba (m:Nat)(l:LD):Ω (m+1) 84 [pL 5 l] []=eo 5 80 [.slice 5 l]:=by kernel_rfl
def Z_ (m:Nat)(lo n:Nat)(l:LD):Ω (m+1) 84 [.arr 0 lo n 5] [.arr l]=j7 5 80 [.arr 0 lo n 5] [.arr l]:=by kernel_rfl
def aa8 (m:Nat)(l:LD):Ω (m+1) 76 [pL 1 l] []=eo 1 8 [.slice 1 l]:=by kernel_rfl
def aa9 (m:Nat)(l:LD):Ω (m+1) 77 [pL 1 l] []=eo 1 16 [.slice 1 l]:=by kernel_rfl
def UA {z b:Nat}{l:LD}(h:l.length<1501)(hb:b<=1000):eo z b [.slice z l]=some (.arr 0 0 l.length z,[.arr l]):=by
 have h1:(2*(0+l.length)+192)*b<=(2*(0+l.length)+192)*1000:=Nat.mul_le_mul_left _ hb;have:eY l.length b=true:=by
  unfold eY;rw[lγ,Nat.ble_eq,Nat.ble_eq];omega
 show(bif Nat.beq z z&&eY l.length b then some (D.arr 0 0 l.length z,[Ob.arr l])else none)=_;rw[Nat.beq_refl,this];rfl
def s_ (l:LD)(h:l.length<1501)(hm:1<=m):Ω m 84 [pL 5 l] []=some (.arr 0 0 l.length 5,[.arr l]):=by
 replace hm:=fuel hm;obtain⟨m,rfl,hm⟩:=hm;rw[aba,UA h (by decide)]
def ñ (l:LD)(lo n:Nat)(h:lo+n<=l.length)(h2:n<1501)(hm:1<=m):Ω m 84 [.arr 0 lo n 5] [.arr l]=some (.arr 1 0 n 5,[.arr l,.arr ((l.drop lo).take n)]):=by
 replace hm:=fuel hm;obtain⟨m,rfl,hm⟩:=hm;rw[Z_];have:eY n 80=true:=by
  unfold eY;rw[lγ,Nat.ble_eq,Nat.ble_eq];omega
 show(bif Nat.beq 0 0&&(Nat.beq 5 5&&(Nat.ble (lo+n) l.length&&eY n 80))then some (D.arr 1 0 n 5,[Ob.arr l,.arr ((l.drop lo).take n)])else none)=_
 rw[this,show Nat.ble (lo+n) l.length=true by rw[Nat.ble_eq];exact h];rfl
def aaU (l:LD)(h:l.length<1501)(hm:1<=m):Ω m 76 [pL 1 l] []=some (.arr 0 0 l.length 1,[.arr l]):=by
 replace hm:=fuel hm;obtain⟨m,rfl,hm⟩:=hm;rw[aa8,UA h (by decide)]
def aaV (l:LD)(h:l.length<1501)(hm:1<=m):Ω m 77 [pL 1 l] []=some (.arr 0 0 l.length 1,[.arr l]):=by
 replace hm:=fuel hm;obtain⟨m,rfl,hm⟩:=hm;rw[aa9,UA h (by decide)]
def fg (l:LD)(k:LD->R):bL (.arr l) k=k l:=rfl
def dV (i z n:Nat)(k:Nat->R):cf i z (.arr i 0 n z) k=k n:=by
 unfold cf;simp[iL]
def qa (x:List D)(K:List D->R):nD (.agg x) K=K x:=rfl
def Va.cl (v:Va):D:= .agg [pI v.k,pI v.n,pS v.s,.arr 0 0 v.I.length 1,.arr 1 0 v.L.length 1]
def Va.ch (v:Va):List Ob:=[.arr (v.I.map iE),.arr (v.L.map .str)]
structure Lg (v:Va):Prop where
 I:v.I.length<1501
 L:v.L.length<1501
def iN (v:Va)(h:Lg v)(hm:2<=m):Ω m 55 [.p v.e] []=some (v.cl,v.ch):=by
 replace hm:=fuel hm;obtain⟨m,rfl,hm⟩:=hm;apply Tg m v.r;unfold Fy;rw[ae (aaU (m:=m) v.r.I (by show(v.I.map iE).length<_;rw[lα];exact h.I) (by omega)),dV];simp only[aY,fg,aC];rw[ae (aaV (m:=m) v.r.L (by show(v.L.map Da.str).length<_;rw[lα];exact h.L) (by omega)),dV];simp only[aY,fg,aC,Va.r,lα];rfl
def Nf {m:Nat}(l:List Va)(hl:l.length<1501)(hv:∀v∈l,Lg v)(hm:1503<=m)(k0:_->R){Z:R}(hk:∀a b c,k0 (l.length,a,b,c,l.map Va.e)=Z):∀(e q i:Nat),i+e=l.length->e<q->itL (iT (cq lay0.tab m) m k0) q (l.length,(l.length:Int),(i:Int),l.map Va.e)=Z
 |0,q+1,i,hi,_=>by
  obtain rfl:i=l.length:=by omega
  rw[aQ];simp only[iT,c8,aX,hk]
 |e+1,q+1,i,hi,hq=>by
  have hil:i<l.length:=by omega
  have hg:(l.map Va.e)[0+(i:Int).toNat]?=some (Da.agg l[i].c):=by
   rw[Nat.zero_add,Int.toNat_natCast,lσ,lη hil];rfl
  have hs:∀d:Da,d=Da.agg l[i].c->(l.map Va.e).set (0+(i:Int).toNat) d=l.map Va.e:=by
   intro d hd;rw[Nat.zero_add,Int.toNat_natCast,hd];apply List.ext_getElem?;intro k;rw[List.getElem?_set];by_cases hk:i=k
   ·subst hk;rw[if_pos rfl,if_pos (by rw[lα];exact hil),lσ,lη hil];rfl
   ·rw[if_neg hk]
  have ec:=ae (iN (m:=m) l[i] (hv _ (lμ _)) (by omega));simp only[Va.e]at ec;rw[aQ];have t1:Da.agg (splice (cells (Da.agg l[i].c)) 0 (cells (Da.agg [Da.int .i64 l[i].k,Da.int .i64 l[i].n,Da.str l[i].s,Da.slice 1 (List.take l[i].I.length (List.drop 0 (l[i].I.map iE))),Da.slice 1 (List.take l[i].L.length (List.drop 0 (l[i].L.map Da.str)))])))=Da.agg l[i].c:=by
   rw[List.drop_zero,List.drop_zero,lξ (by rw[lα];omega),lξ (by rw[lα];omega)];rfl
  simp only[iT,fp (show((i:Int)<(l.length:Int)) by omega),aN,bk,show(0:Int)<=(i:Int) by omega,decide_true,hg,bw,KI,show l[i].r.e=Da.agg l[i].c from rfl,ec,Va.cl,Va.ch,qa,aY,ba,bV,jZ,dV,aC,fg];rw[hs _ t1,wS (show i<c9 by unfold c9;omega)];exact Nf l hl hv hm k0 hk e q (i+1) (by omega) (by omega)
def sP (l:List Va)(hl:l.length<1501)(hv:∀v∈l,Lg v)(hm:1504<=m):Ω m 39 [pL 5 (l.map Va.e)] []=some (.arr 0 0 l.length 5,[.arr (l.map Va.e)]):=by
 replace hm:=fuel hm;obtain⟨m,rfl,hm⟩:=hm;apply Pp m (l.map Va.e);unfold AY;rw[ae (s_ (m:=m) (l.map Va.e) (by rw[lα];exact hl) (by omega)),dV];simp only[aY,fg,aC,lα];exact Nf l hl hv (by omega) _ (fun _ _ _=>rfl) l.length m 0 (by omega) (by omega)
def GN {m:Nat}(l:List Va)(hl:l.length<1501)(hv:∀v∈l,Lg v)(hm:1503<=m)(X:LD)(k0:_->R){Z:R}(hk:∀a b c,k0 (l.length,a,b,c,X,l.map Va.e)=Z):∀(e q i:Nat),i+e=l.length->e<q->itL (gB (cq lay0.tab m) m k0) q (l.length,(l.length:Int),(i:Int),X,l.map Va.e)=Z
 |0,q+1,i,hi,_=>by
  obtain rfl:i=l.length:=by omega
  rw[aQ];simp only[gB,c8,aX,hk]
 |e+1,q+1,i,hi,hq=>by
  have hil:i<l.length:=by omega
  have hg:(l.map Va.e)[0+(i:Int).toNat]?=some (Da.agg l[i].c):=by
   rw[Nat.zero_add,Int.toNat_natCast,lσ,lη hil];rfl
  have hs:∀d:Da,d=Da.agg l[i].c->(l.map Va.e).set (0+(i:Int).toNat) d=l.map Va.e:=by
   intro d hd;rw[Nat.zero_add,Int.toNat_natCast,hd];apply List.ext_getElem?;intro k;rw[List.getElem?_set];by_cases hk:i=k
   ·subst hk;rw[if_pos rfl,if_pos (by rw[lα];exact hil),lσ,lη hil];rfl
   ·rw[if_neg hk]
  have ec:=ae (iN (m:=m) l[i] (hv _ (lμ _)) (by omega));simp only[Va.e]at ec;rw[aQ];have t1:Da.agg (splice (cells (Da.agg l[i].c)) 0 (cells (Da.agg [Da.int .i64 l[i].k,Da.int .i64 l[i].n,Da.str l[i].s,Da.slice 1 (List.take l[i].I.length (List.drop 0 (l[i].I.map iE))),Da.slice 1 (List.take l[i].L.length (List.drop 0 (l[i].L.map Da.str)))])))=Da.agg l[i].c:=by
   rw[List.drop_zero,List.drop_zero,lξ (by rw[lα];omega),lξ (by rw[lα];omega)];rfl
  simp only[gB,fp (show((i:Int)<(l.length:Int)) by omega),aN,bk,show(0:Int)<=(i:Int) by omega,decide_true,hg,bw,KI,show l[i].r.e=Da.agg l[i].c from rfl,ec,Va.cl,Va.ch,qa,aY,ba,bV,jZ,dV,aC,fg];rw[hs _ t1,wS (show i<c9 by unfold c9;omega)];exact GN l hl hv hm X k0 hk e q (i+1) (by omega) (by omega)
def Jz (l:List Va)(hl:l.length<1501)(hv:∀v∈l,Lg v)(hm:1504<=m):Ω m 39 [.arr 0 0 l.length 5] [.arr (l.map Va.e)]=some (.arr 1 0 l.length 5,[.arr (l.map Va.e),.arr (l.map Va.e)]):=by
 replace hm:=fuel hm;obtain⟨m,rfl,hm⟩:=hm;apply Ki m l.length (l.map Va.e);unfold w7;rw[ae (ñ (m:=m) (l.map Va.e) 0 l.length (by rw[lα];omega) hl (by omega)),dV];simp only[aY,fg,aC,List.drop_zero,lξ (l:=l.map Va.e) (show(l.map Va.e).length<=l.length by rw[lα];omega)];exact GN l hl hv (by omega) _ _ (fun _ _ _=>rfl) l.length m 0 (by omega) (by omega)
section
def m5:Nat:=2000000
def p_ (l:List LN):Bool:=l.all fun t=>!aK 100 (t.length:Int)
def vaB (v:Va):Bool:=!aK 100 (v.s.length:Int)&&(!aK 40 (v.I.length:Int)&&(!aK 40 (v.L.length:Int)&&p_ v.L))
def yB (l:List Va):Bool:=l.all vaB&&aV (l.length:Int) 20
section
variable {m:Nat} (hm:2000010<=m)
include hm
def abm (l:List Va)(i:Nat)(hi:i<l.length)(hL:l[i].L.length<m5){Er:R}(k1:_->R){Z:R}(hk:∀b,k1 (l.map Va.e,(i:Int),(l[i].L.length:Int),b)=Z):itL (gm (cq lay0.tab m) m Er k1) m (l.map Va.e,(i:Int),0)=bif p_ l[i].L then Z else Er:=by
 have hl:l[i].L.length<2000000:=hL;refine(br l[i].L (fun q j=>itL (gm (cq lay0.tab m) m Er k1) q (l.map Va.e,(i:Int),j)) (fun t=>aK 100 (t.length:Int)) (fun _=>Er) Z (fun q j hj=>?_) (fun q=>?_) (by omega)).trans ?_
 ·rw[aQ];simp only[gm,aU,be,bh hi,bw,Va.e,KI,show l[i].r.L=l[i].L.map Da.str from rfl,lα,fp (show(j:Int)<(l[i].L.length:Int) by omega),aN,bh hj,tv,wS (show j<c9 by unfold c9;omega)];exact lC _ _ _
 ·rw[aQ];simp only[gm,aU,be,bh hi,bw,Va.e,KI,show l[i].r.L=l[i].L.map Da.str from rfl,lα,c8,aX];exact hk _
 ·unfold p_;rw[iW];cases l[i].L.findIdx? fun t=>aK 100 (t.length:Int)<;>rfl
def sO (l:List Va)(hl:l.length<m5)(hL:∀v∈l,v.L.length<m5):Ω (m+1) 11 [pL 5 (l.map Va.e)] []=some (pB (yB l),[]):=by
 apply Pi m (l.map Va.e);unfold AR;have hl':l.length<2000000:=hl;refine(br l (fun q i=>itL (gj (cq lay0.tab m) m _ _) q (l.map Va.e,i)) (fun v=>!vaB v) (fun _=>some (pB false,[])) (some (pB (aV (l.length:Int) 20),[])) (fun q i hi=>?_) (fun q=>?_) (by omega)).trans ?_
 ·rw[aQ];have h2:=fun(k1:_->R) Z hk=>abm hm l i hi (hL _ (lμ hi)) (Er:=some (pB false,[])) k1 (Z:=Z) hk
  simp only[gj,lα,fp (show(i:Int)<(l.length:Int) by omega),aN,aU,be,bh hi,bw,Va.e,KI];show iL (aK 100 (l[i].s.length:Int)) _ (iL (aK 40 ((l[i].I.map iE).length:Int)) _ (iL (aK 40 ((l[i].L.map Da.str).length:Int)) _ _))=_;rw[lα,lα,h2 _ (itL (gj (cq lay0.tab m) m (some (pB false,[])) (fun x=>some (pB (aV (↑(List.length x.1)) 20),[]))) q (l.map Va.e,((i+1:Nat):Int))) (fun b=>by simp only[wS (show i<c9 by unfold c9;omega)])];unfold vaB;cases aK 100 (l[i].s.length:Int)<;>cases aK 40 (l[i].I.length:Int)<;>cases aK 40 (l[i].L.length:Int)<;>cases p_ l[i].L<;>rfl
 ·rw[aQ];simp only[gj,lα,c8,aX]
 ·unfold yB;rw[iG];cases l.findIdx? fun v=>!vaB v<;>rfl
def y7 (v:Va):Bool:=p_ v.L&&(aV (v.s.length:Int) 100&&(aV (v.I.length:Int) 40&&aV (v.L.length:Int) 40))
def Xo (v:Va)(hL:v.L.length<m5):Ω (m+1) 35 [.p v.e] []=dQ (y7 v):=by
 apply XM m v.r;unfold MD;have hl:v.L.length<2000000:=hL;refine(br v.L (fun q j=>itL (lm (cq lay0.tab m) m _ _) q (j,v.r)) (fun t=>aK 100 (t.length:Int)) (fun _=>dQ false) (dQ (aV (v.s.length:Int) 100&&(aV (v.I.length:Int) 40&&aV (v.L.length:Int) 40))) (fun q j hj=>?_) (fun q=>?_) (by omega)).trans ?_
 ·rw[aQ];simp only[lm,show v.r.L=v.L.map Da.str from rfl,lα,fp (show(j:Int)<(v.L.length:Int) by omega),aN,aU,be,bh hj,bw,tv,wS (show j<c9 by unfold c9;omega)];exact lC _ _ _
 ·rw[aQ];simp only[lm,show v.r.L=v.L.map Da.str from rfl,show v.r.I=v.I.map iE from rfl,show v.r.S=v.s from rfl,lα,c8,aX];cases aV (v.s.length:Int) 100<;>cases aV (v.I.length:Int) 40<;>cases aV (v.L.length:Int) 40<;>rfl
 ·unfold y7 p_;rw[iW];cases v.L.findIdx? fun t=>aK 100 (t.length:Int)<;>rfl
end
end
def qc:List LN->List LN->Bool
 |_,[]=>true
 |seen,s::r=>nX s&&(!(seen.any fun t=>decide (s=t))&&qc (seen++[s]) r)
def tN (seen:List LN)(s:LN)(E:R)(K:Nat->R)(H:R)(hK:∀j,j<seen.length->K j=H):(cL (cS .string (.str s) (seen.map .str) 0) fun y=>qw y E K)=bif seen.any fun t=>decide (s=t)then H else E:=by
 rw[qg .string (.str s) Da.str (fun t=>decide (s=t)) (fun x=>by simp only[j5,hM]) seen 0,bw];cases h:seen.findIdx? fun t=>decide (s=t)with
 |none=>
  rw[show(seen.any fun t=>decide (s=t))=false by
   rw[qκ];intro x hx;simpa using mσ.1 h x hx]
  rfl
 |some j=>
  obtain⟨hj,h1,-⟩:=qθ.1 h;rw[show(seen.any fun t=>decide (s=t))=true by
   rw[List.any_eq_true];exact⟨_,lμ hj,h1⟩]
  show K (0+j)=H;rw[Nat.zero_add];exact hK j hj
variable {seen:List LN}
def tM {s:LN}(h:(seen.any fun t=>decide (s=t))=false):cS .string (.str s) (seen.map .str) 0=some none:=by
 rw[qg .string (.str s) Da.str (fun t=>decide (s=t)) (fun x=>by simp only[j5,hM]) seen 0];rw[qκ]at h;rw[mσ.2 fun x hx=>by simpa using h x hx];rfl
def wc (names:List LN)(L:Nat->Int->List LN->R)(rt rf:R)(hs:∀q i (h:i<names.length) seen,L (q+1) (i:Int) seen=bif nX names[i]&&!(seen.any fun t=>decide (names[i]=t))then L q ((i+1:Nat):Int) (seen++[names[i]])else rf)(he:∀q seen,L (q+1) (names.length:Int) seen=rt):
  ∀(d q i:Nat) (seen:List LN),i+d=names.length->d<q->L q (i:Int) seen=bif qc seen (names.drop i)then rt else rf
 |0,q+1,i,seen,h,_=>by
  obtain rfl:i=names.length:=by omega
  rw[List.drop_length];exact he q seen
 |d+1,q+1,i,seen,h,hq=>by
  have hi:i<names.length:=by omega
  rw[hs q i hi seen,wc names L rt rf hs he d q (i+1) _ (by omega) (by omega),mμ hi];rw[qc];cases nX names[i]<;>cases seen.any fun t=>decide (names[i]=t)<;>rfl
def uL (seen:List LN):LD:=List.replicate seen.length (Da.bool true)
def y5 {j:Nat}(h:j<seen.length):(uL seen)[j]?=some (Da.bool true):=by
 unfold uL;rw[List.getElem?_replicate,if_pos h]
def ue (seen:List LN)(s:LN):uL seen++[Da.bool true]=uL (seen++[s]):=by
 unfold uL;rw[lε,List.length_singleton,List.replicate_succ']
def k_ (t:Ct):=t.name
def l_ (t:Fe):=t.name
def m_ (t:Cm):=t.name
def RL (c:List Ct)(i:Nat)(h:i<c.length)(hm:1<=m):Ω m 103 [pI i,.box 0 0] [.box [pL 3 (c.map Ct.e)]]=some (pS (c[i].name),[.box [pL 3 (c.map Ct.e)]]):=by
 replace hm:=fuel hm;obtain⟨m,rfl,hm⟩:=hm;apply SI m (c.map Ct.e) i;unfold E3;rw[aU,be,bh h,bw,CU];rfl
def RM (t:Ct)(i:Nat)(h:i<t.fields.length)(hm:1<=m):Ω m 179 [pI i,.box 0 0] [t.r.b]=some (pS (t.fields[i].name),[t.r.b]):=by
 replace hm:=fuel hm;obtain⟨m,rfl,hm⟩:=hm;apply SJ m t.r i;unfold E4;show cL (bI (t.fields.map Fe.e) i) _=_;rw[aU,be,bh h,bw,Ũ];rfl
def RN (t:Ct)(i:Nat)(h:i<t.methods.length)(hm:1<=m):Ω m 180 [pI i,.box 0 0] [t.r.b]=some (pS (t.methods[i].name),[t.r.b]):=by
 replace hm:=fuel hm;obtain⟨m,rfl,hm⟩:=hm;apply SK m t.r i;unfold E5;show cL (bI (t.methods.map Cm.e) i) _=_;rw[aU,be,bh h,bw,GP];rfl
def RG (c:List Ct)(hc:c.length<1501)(hm:1510<=m):Ω m 102 [pI (c.length:Int),.fn 103 [.box 0 0]] [.box [pL 3 (c.map Ct.e)]]=some (pB (qc [] (c.map k_)),[.box [pL 3 (c.map Ct.e)]]):=by
 replace hm:=fuel hm;obtain⟨m,rfl,hm⟩:=hm;apply SD m (c.map Ct.e) c.length;unfold EY;refine(wc (c.map k_) (fun q i seen=>itL (jI (cq lay0.tab m) m _ _) q ((c.length:Int),i,c4 c,seen.map .str,uL seen)) (some (pB true,[.box [pL 3 (c.map Ct.e)]])) (some (pB false,[.box [pL 3 (c.map Ct.e)]])) (fun q i hi seen=>?_) (fun q seen=>?_) _ m 0 [] (Nat.zero_add _) (by rw[lα];omega)).trans ?_
 ·rw[lα]at hi;rw[aQ];have h1:=ae (RL c i hi (m:=m) (by omega));have h2:=ae (sN (n:=m - 1506) (c[i].name));rw[show m - 1506+1506=m by omega]at h2;simp only[jI,fp (show((i:Int)<(c.length:Int)) by omega),aN];refine(h1 _).trans ?_;simp only[ba,jZ];refine(cd _ _).trans ?_;simp only[h2,ba,aL,aC,wS (show i<c9 by unfold c9;omega)];rw[tN seen (c[i].name) _ _ _ fun j hj=>by simp only[y5 hj,bw,aL,aN];rfl];rw[show(c.map k_)[i]'(by rw[lα];exact hi)=c[i].name from List.getElem_map ..];cases nX (c[i].name)
  ·rfl
  cases h3:seen.any fun s=>decide (c[i].name=s)
  ·rw[ue seen (c[i].name)];simp only[tM h3,bw,LH,aN,cond_false,Bool.not_false,Bool.and_self,cond_true,List.map_append];rfl
  ·rfl
 ·rw[aQ,lα];simp only[jI,c8,aX];rfl
 ·rw[List.drop_zero];cases qc [] (c.map k_)<;>rfl
def RH (t:Ct)(hc:t.fields.length<1501)(hm:1510<=m):Ω m 102 [pI (t.fields.length:Int),.fn 179 [.box 0 0]] [t.r.b]=some (pB (qc [] (t.fields.map l_)),[t.r.b]):=by
 replace hm:=fuel hm;obtain⟨m,rfl,hm⟩:=hm;apply SE m t.r t.fields.length;unfold EZ;refine(wc (t.fields.map l_) (fun q i seen=>itL (jJ (cq lay0.tab m) m _ _) q ((t.fields.length:Int),i,t.r,seen.map .str,uL seen)) (some (pB true,[t.r.b])) (some (pB false,[t.r.b])) (fun q i hi seen=>?_) (fun q seen=>?_) _ m 0 [] (Nat.zero_add _) (by rw[lα];omega)).trans ?_
 ·rw[lα]at hi;rw[aQ];have h1:=ae (RM t i hi (m:=m) (by omega));have h2:=ae (sN (n:=m - 1506) (t.fields[i].name));rw[show m - 1506+1506=m by omega]at h2;simp only[jJ,fp (show((i:Int)<(t.fields.length:Int)) by omega),aN];refine(h1 _).trans ?_;simp only[ba,jZ];refine(cd _ _).trans ?_;simp only[h2,ba,aL,aC,wS (show i<c9 by unfold c9;omega)];rw[tN seen (t.fields[i].name) _ _ _ fun j hj=>by simp only[y5 hj,bw,aL,aN];rfl];rw[show(t.fields.map l_)[i]'(by rw[lα];exact hi)=t.fields[i].name from List.getElem_map ..];cases nX (t.fields[i].name)
  ·rfl
  cases h3:seen.any fun s=>decide (t.fields[i].name=s)
  ·rw[ue seen (t.fields[i].name)];simp only[tM h3,bw,LH,aN,cond_false,Bool.not_false,Bool.and_self,cond_true,List.map_append];rfl
  ·rfl
 ·rw[aQ,lα];simp only[jJ,c8,aX];rfl
 ·rw[List.drop_zero];cases qc [] (t.fields.map l_)<;>rfl
def RI (t:Ct)(hc:t.methods.length<1501)(hm:1510<=m):Ω m 102 [pI (t.methods.length:Int),.fn 180 [.box 0 0]] [t.r.b]=some (pB (qc [] (t.methods.map m_)),[t.r.b]):=by
 replace hm:=fuel hm;obtain⟨m,rfl,hm⟩:=hm;apply SF m t.r t.methods.length;unfold E0;refine(wc (t.methods.map m_) (fun q i seen=>itL (jK (cq lay0.tab m) m _ _) q ((t.methods.length:Int),i,t.r,seen.map .str,uL seen)) (some (pB true,[t.r.b])) (some (pB false,[t.r.b])) (fun q i hi seen=>?_) (fun q seen=>?_) _ m 0 [] (Nat.zero_add _) (by rw[lα];omega)).trans ?_
 ·rw[lα]at hi;rw[aQ];have h1:=ae (RN t i hi (m:=m) (by omega));have h2:=ae (sN (n:=m - 1506) (t.methods[i].name));rw[show m - 1506+1506=m by omega]at h2;simp only[jK,fp (show((i:Int)<(t.methods.length:Int)) by omega),aN];refine(h1 _).trans ?_;simp only[ba,jZ];refine(cd _ _).trans ?_;simp only[h2,ba,aL,aC,wS (show i<c9 by unfold c9;omega)];rw[tN seen (t.methods[i].name) _ _ _ fun j hj=>by simp only[y5 hj,bw,aL,aN];rfl];rw[show(t.methods.map m_)[i]'(by rw[lα];exact hi)=t.methods[i].name from List.getElem_map ..];cases nX (t.methods[i].name)
  ·rfl
  cases h3:seen.any fun s=>decide (t.methods[i].name=s)
  ·rw[ue seen (t.methods[i].name)];simp only[tM h3,bw,LH,aN,cond_false,Bool.not_false,Bool.and_self,cond_true,List.map_append];rfl
  ·rfl
 ·rw[aQ,lα];simp only[jK,c8,aX];rfl
 ·rw[List.drop_zero];cases qc [] (t.methods.map m_)<;>rfl
def zL (f:Fe):Bool:=gN f.kind&&(az f.init.k f.kind&&kj f.init)
def RQ (f:Fe)(hm:1504<=m):Ω m 182 [.p f.e] []=dQ (!zL f):=by
 obtain⟨k,rfl⟩:=uD hm;apply SN (k+1503) f.r;unfold E8 zL;have h:=ae (qK (n:=k) f.init);simp only[Va.c]at h;simp only[Fe.r,ae (sM (n:=k+1502) f.kind),h,ba,aL,aC];cases gN f.kind<;>cases az f.init.k f.kind<;>cases kj f.init<;>rfl
def R0 (q:List Fe)(hl:q.length<1501)(hm:1510<=m):Ω m 239 [pL 7 (q.map Fe.e),.p (.fn 182 [])] []=some (pI (Hh (q.findIdx? fun f=>!zL f)),[]):=by
 replace hm:=fuel hm;obtain⟨m,rfl,hm⟩:=hm;apply S9 m (q.map Fe.e);unfold Fq;refine(br q (fun k i=>itL (jO _ m _ _) k (q.map Fe.e,((q.map Fe.e).length:Int),i)) (fun f=>!zL f) (fun i=>some (pI i,[])) (some (pI (-1),[])) (fun k i hi=>?_) (fun k=>?_) (by omega)).trans ?_
 ·rw[aQ];have h:=ae (RQ q[i] (m:=m) (by omega));simp only[jO,lα,fp (show((i:Int)<(q.length:Int)) by omega),aN,aU,be,bh hi,bw,Ũ,wS (show i<c9 by unfold c9;omega)];refine(h _).trans ?_;simp only[ba,aL,aC];exact lC _ _ _
 ·rw[aQ];simp only[jO,lα,c8,aX]
 ·cases q.findIdx? fun f=>!zL f<;>rfl
def RV (q:List Fe)(hl:q.length<1501)(hm:1511<=m):Ω m 181 [pL 7 (q.map Fe.e),.p (.fn 182 [])] []=dQ (q.any fun f=>!zL f):=by
 replace hm:=fuel hm;obtain⟨m,rfl,hm⟩:=hm;apply S5 m (q.map Fe.e);unfold Fl;rw[ae (R0 q hl hm)];simp only[ba,bV];refine(cd _ _).trans ?_;rw[wg,iBo];rfl
structure w_ (t:Ct):Prop where
 f:t.fields.length<1501
 m:t.methods.length<1501
 s:∀m∈t.methods,SzM m
structure zB (c:List Ct):Prop where
 n:c.length<1501
 s:∀t∈c,w_ t
def vH (t:Ct):Bool:=!aK 8 t.fields.length&&(!aK 16 t.methods.length&&(qc [] (t.fields.map l_)&&(qc [] (t.methods.map m_)&&t.fields.all zL)))
def Xj (t:Ct)(hz:w_ t)(hm:1512<=m):Ω m 106 [.p t.e] []=dQ (vH t):=by
 replace hm:=fuel hm;obtain⟨m,rfl,hm⟩:=hm;apply XI m t.r;unfold Mz vH;have h1:=ae (RH t hz.f (m:=m) (by omega));have h2:=ae (RI t hz.m (m:=m) (by omega));have h3:=ae (RV t.fields hz.f (m:=m) (by omega));change ∀k,cq lay0.tab m _ [_,_] [.box [pS t.name,pL 7 (t.fields.map Fe.e),pL 5 (t.methods.map Cm.e)]] k=k _ [.box [pS t.name,pL 7 (t.fields.map Fe.e),pL 5 (t.methods.map Cm.e)]]at h1;change ∀k,cq lay0.tab m _ [_,_] [.box [pS t.name,pL 7 (t.fields.map Fe.e),pL 5 (t.methods.map Cm.e)]] k=k _ [.box [pS t.name,pL 7 (t.fields.map Fe.e),pL 5 (t.methods.map Cm.e)]]at h2;simp only[Ct.r,lα,h1,h2,h3,ba,aL,cd,iBn,iBf,iBa];rw[<-List.all_eq_not_any_not (p:=zL)];rfl
def RK (t:Ct)(hz:w_ t)(hm:1513<=m):Ω m 105 [.p t.e] []=dQ (!vH t):=by
 replace hm:=fuel hm;obtain⟨m,rfl,hm⟩:=hm;apply SH m t.r;unfold E2;refine(ae (Xj t hz hm) _).trans ?_;simp only[ba,aL,aC,iBn];rfl
def R2 (q:List Ct)(hz:zB q)(hm:1520<=m):Ω m 139 [pL 3 (q.map Ct.e),.p (.fn 105 [])] []=some (pI (Hh (q.findIdx? fun f=>!vH f)),[]):=by
 replace hm:=fuel hm;obtain⟨m,rfl,hm⟩:=hm;apply Tc m (q.map Ct.e);unfold Ft;have hl:=hz.n;refine(br q (fun k i=>itL (jQ _ m _ _) k (q.map Ct.e,((q.map Ct.e).length:Int),i)) (fun f=>!vH f) (fun i=>some (pI i,[])) (some (pI (-1),[])) (fun k i hi=>?_) (fun k=>?_) (by omega)).trans ?_
 ·rw[aQ];have h:=ae (RK q[i] (hz.s _ (lμ hi)) (m:=m) (by omega));simp only[jQ,lα,fp (show((i:Int)<(q.length:Int)) by omega),aN,aU,be,bh hi,bw,CU,wS (show i<c9 by unfold c9;omega)];refine(h _).trans ?_;simp only[ba,aL,aC];exact lC _ _ _
 ·rw[aQ];simp only[jQ,lα,c8,aX]
 ·cases q.findIdx? fun f=>!vH f<;>rfl
def RY (q:List Ct)(hz:zB q)(hm:1521<=m):Ω m 104 [pL 3 (q.map Ct.e),.p (.fn 105 [])] []=dQ (q.any fun f=>!vH f):=by
 replace hm:=fuel hm;obtain⟨m,rfl,hm⟩:=hm;apply S8 m (q.map Ct.e);unfold Fp;rw[ae (R2 q hz hm)];simp only[ba,bV];refine(cd _ _).trans ?_;rw[wg,iBo];rfl
def Av (c:List Ct)(t:Ct):Nat->List Cm->Option Nat
 |a,[]=>some a
 |a,x::r=>bif aK 3000 (a+x.code.length:Nat)then none else bif vC c t x then Av c t (a+x.code.length) r else none
def Ml (c:List Ct):Nat->List Ct->Option Nat
 |a,[]=>some a
 |a,t::r=>(Av c t a t.methods).bind fun a=>Ml c a r
def vB (c:List Ct):Bool:=!aK 8 c.length&&(qc [] (c.map k_)&&(c.all vH&&(Ml c 0 c).isSome))
def Oq {c t}:∀(l:List Cm) {a b:Nat},Av c t a l=some b->a<=3000->b<=3000
 |[],a,b,h,ha=>by cases h;exact ha
 |x::r,a,b,h,ha=>by
  unfold Av at h;revert h;cases h1:aK 3000 (a+x.code.length:Nat)with
  |true=>intro h;cases h
  |false=>
   rw[bT,lζ]at h1;cases vC c t x with
   |false=>intro h;cases h
   |true=>exact fun h=>Oq r h (by omega)
def mF {α:Type}(o:Option α)(E:R)(K:α->R):R:=match o with|none=>E|some a=>K a
def ğ {m:Nat}(c:List Ct)(t:Ct)(l1:LD)(i2 i3:Int)(ht:w_ t)(hm:3020<=m)(k1:_->R):∀(d q i:Nat) (a:Nat),a<=3000->i+d=t.methods.length->d<q->itL (li (cq lay0.tab m) m (fun _=>dQ false) k1) q ((a:Int),l1,i2,i3,t.methods.map Cm.e,(t.methods.length:Int),(i:Int),c4 c,t.r)=mF (Av c t a (t.methods.drop i)) (dQ false) fun b=>k1 ((b:Int),l1,i2,i3,t.methods.map Cm.e,(t.methods.length:Int),(t.methods.length:Int),c4 c,t.r)
 |0,q+1,i,a,ha,h,_=>by
  obtain rfl:i=t.methods.length:=by omega
  rw[aQ,List.drop_length];simp only[li,c8,aX];rfl
 |d+1,q+1,i,a,ha,h,hq=>by
  have hi:i<t.methods.length:=by omega
  have hz:=ht.s _ (lμ hi);have hzc:=hz.c;rw[aQ,mμ hi];simp only[li,fp (show((i:Int)<(t.methods.length:Int)) by omega),aN,aU,be,bh hi,bw,GP,wS (show i<c9 by unfold c9;have:=ht.m;omega)];have h1:ab .i64 ((a:Int)+((t.methods[i].r.Code).length:Int))=((a+t.methods[i].code.length:Nat):Int):=by
   rw[show(t.methods[i].r.Code).length=t.methods[i].code.length from lα ..];rw[cV (by omega) (by omega)];omega
  rw[h1];unfold Av;cases h2:aK 3000 ((a+t.methods[i].code.length:Nat):Int)with
  |true=>rfl
  |false=>
   rw[aX,cond_false];refine(ae (Xi c t t.methods[i] hz (m:=m) (by omega)) _).trans ?_;simp only[ba,aL,aC];cases vC c t t.methods[i]with
   |false=>rfl
   |true=>
    rw[aN,cond_true];rw[bT,lζ]at h2;exact ğ c t l1 i2 i3 ht hm k1 d q (i+1) (a+t.methods[i].code.length) (by omega) (by omega) (by omega)
def Ğ {m:Nat}(c:List Ct)(hc:zB c)(hm:3020<=m)(k1:_->R):∀(d q i:Nat) (a:Nat),a<=3000->i+d=c.length->d<q->itL (ig (cq lay0.tab m) m (fun _=>dQ false) k1) q ((a:Int),c.map Ct.e,(c.length:Int),(i:Int),c4 c)=mF (Ml c a (c.drop i)) (dQ false) fun b=>k1 ((b:Int),c.map Ct.e,(c.length:Int),(c.length:Int),c4 c)
 |0,q+1,i,a,ha,h,_=>by
  obtain rfl:i=c.length:=by omega
  rw[aQ,List.drop_length];simp only[ig,c8,aX];rfl
 |d+1,q+1,i,a,ha,h,hq=>by
  have hi:i<c.length:=by omega
  have hz:=hc.s _ (lμ hi);have:=hc.n;have:=hz.m;rw[aQ,mμ hi];simp only[ig,fp (show((i:Int)<(c.length:Int)) by omega),aN,aU,be,bh hi,bw,CU];rw[show(c[i].r.Methods).length=c[i].methods.length from lα ..];refine(ğ c c[i] _ _ _ hz hm _ c[i].methods.length m 0 a ha (by omega) (by omega)).trans ?_;rw[List.drop_zero];unfold Ml;cases h2:Av c c[i] a c[i].methods with
  |none=>rfl
  |some b=>
   simp only[mF,Option.bind_some,wS (show i<c9 by unfold c9;omega)];exact Ğ c hc hm k1 d q (i+1) b (Oq _ h2 ha) (by omega) (by omega)
def Cg (c:List Ct)(hc:zB c)(hm:3021<=m):Ω m 63 [.p (c4 c).e] []=dQ (vB c):=by
 replace hm:=fuel hm;obtain⟨m,rfl,hm⟩:=hm;apply XF m (c4 c);unfold Mw vB;have hn:=hc.n;have h1:=ae (RG c hc.n (m:=m) (by omega));have h2:=ae (RY c hc (m:=m) (by omega));have h3:=Ğ c hc hm (fun _=>dQ true) c.length m 0 0 (by omega) (by omega) (by omega);simp only[c4,lα,h1,h2,ba,aL,cd];change itL (ig _ _ _ _) _ (0,c.map Ct.e,(c.length:Int),0,aq.mk (c.map Ct.e))=_ at h3;show iL _ _ (iL _ (iL _ _ (itL (ig _ _ (fun _=>dQ false) (fun _=>dQ true)) _ (0,c.map Ct.e,(c.length:Int),0,aq.mk (c.map Ct.e)))) _)=_;rw[h3,List.drop_zero,<-Bool.not_not (c.any fun f=>!vH f),<-List.all_eq_not_any_not (p:=vH)];cases aK 8 (c.length:Int)<;>cases qc [] (c.map k_)<;>cases c.all vH<;>cases Ml c 0 c<;>rfl
section
def Qj (f:Fe):Bool:=!aK 100 (f.name.length:Int)&&y7 f.init
def Lk (m:Cm):Bool:=!aK 100 (m.name.length:Int)&&(!aK 20 (m.params.length:Int)&&(!aK 40 (m.locals.length:Int)&&(!aK 120 (m.code.length:Int)&&m.code.all fun y=>y7 y.v)))
def P4 (t:Ct):Bool:=!aK 100 (t.name.length:Int)&&(!aK 20 (t.fields.length:Int)&&(!aK 20 (t.methods.length:Int)&&(t.fields.all Qj&&t.methods.all Lk)))
def y8 (c:List Ct):Bool:=!aK 20 (c.length:Int)&&c.all P4
structure Bt (t:Ct):Prop where
 f:t.fields.length<m5
 m:t.methods.length<m5
 fv:∀f∈t.fields,f.init.L.length<m5
 mc:∀m∈t.methods,m.code.length<m5/\∀y∈m.code,y.v.L.length<m5
structure Bc (c:List Ct):Prop where
 n:c.length<m5
 t:∀t∈c,Bt t
section
variable {m:Nat} (hm:2000020<=m)
include hm
def Ĝ (v:Va)(hL:v.L.length<m5):Ω m 35 [.p (.agg v.c)] []=dQ (y7 v):=by
 obtain⟨k,rfl,hk⟩:=fuel (show 2000019+1<=m from hm);exact Xo (m:=k) (by omega) v hL
variable {Er:R}
def abx (c:List Ct)(t:Ct)(ht:Bt t)(i:Nat)(k0 k1:_->R)(h0:∀x,k0 x=Er):itL (hZ (cq lay0.tab m) m k0 k1) m ((i:Int),0,c4 c,t.r)=bif t.fields.all Qj then k1 ((i:Int),(t.fields.length:Int),c4 c,t.r)else Er:=by
 have hl:t.fields.length<2000000:=ht.f;refine(br t.fields (fun q j=>itL (hZ (cq lay0.tab m) m k0 k1) q ((i:Int),j,c4 c,t.r)) (fun f=>!Qj f) (fun _=>Er) (k1 ((i:Int),(t.fields.length:Int),c4 c,t.r)) (fun q j hj=>?_) (fun q=>?_) (by omega)).trans ?_
 ·rw[aQ];have hs:=ae (Ĝ hm t.fields[j].init (ht.fv _ (lμ hj)));simp only[Va.c]at hs;simp only[hZ,show t.r.Fields=t.fields.map Fe.e from rfl,lα,fp (show(j:Int)<(t.fields.length:Int) by omega),aN,aU,be,bh hj,bw,Ũ,Fe.r,hs,ba,aL,aC,h0,wS (show j<c9 by unfold c9;omega)];unfold Qj;cases aK 100 (t.fields[j].name.length:Int)<;>cases y7 t.fields[j].init<;>rfl
 ·rw[aQ];simp only[hZ,show t.r.Fields=t.fields.map Fe.e from rfl,lα,c8,aX]
 ·rw[iG];cases t.fields.findIdx? fun f=>!Qj f<;>rfl
def abz (c:List Ct)(t:Ct)(me:Cm)(hl:me.code.length<m5)(hy:∀y∈me.code,y.v.L.length<m5)(i k:Nat)(k0 k1:_->R)(h0:∀x,k0 x=Er):itL (ib (cq lay0.tab m) m k0 k1) m ((i:Int),(k:Int),0,c4 c,t.r,me.r)=bif me.code.all fun y=>y7 y.v then k1 ((i:Int),(k:Int),(me.code.length:Int),c4 c,t.r,me.r)else Er:=by
 have hl:me.code.length<2000000:=hl;refine(br me.code (fun q j=>itL (ib (cq lay0.tab m) m k0 k1) q ((i:Int),(k:Int),j,c4 c,t.r,me.r)) (fun y=>!y7 y.v) (fun _=>Er) (k1 ((i:Int),(k:Int),(me.code.length:Int),c4 c,t.r,me.r)) (fun q j hj=>?_) (fun q=>?_) (by omega)).trans ?_
 ·rw[aQ];have hs:=ae (Ĝ hm me.code[j].v (hy _ (lμ hj)));simp only[Va.c]at hs;simp only[ib,show me.r.Code=me.code.map Cd.e from rfl,lα,fp (show(j:Int)<(me.code.length:Int) by omega),aN,aU,be,bh hj,bw,W6,Cd.r,hs,ba,aL,aC,h0,wS (show j<c9 by unfold c9;omega)];cases y7 me.code[j].v<;>rfl
 ·rw[aQ];simp only[ib,show me.r.Code=me.code.map Cd.e from rfl,lα,c8,aX]
 ·rw[iG];cases me.code.findIdx? fun y=>!y7 y.v<;>rfl
def aby (c:List Ct)(t:Ct)(ht:Bt t)(i:Nat)(k0 k1:_->R)(h0:∀x,k0 x=Er):itL (gc (cq lay0.tab m) m k0 k1) m ((i:Int),0,c4 c,t.r)=bif t.methods.all Lk then k1 ((i:Int),(t.methods.length:Int),c4 c,t.r)else Er:=by
 have hl:t.methods.length<2000000:=ht.m;refine(br t.methods (fun q j=>itL (gc (cq lay0.tab m) m k0 k1) q ((i:Int),j,c4 c,t.r)) (fun f=>!Lk f) (fun _=>Er) (k1 ((i:Int),(t.methods.length:Int),c4 c,t.r)) (fun q j hj=>?_) (fun q=>?_) (by omega)).trans ?_
 ·rw[aQ];obtain⟨g1,g2⟩:=ht.mc _ (lμ hj);have h4:=abz hm c t t.methods[j] g1 g2 i j (Er:=Er) (fun x=>k0 (x.1,x.2.1,x.2.2)) (fun x=>itL (gc (cq lay0.tab m) m k0 k1) q (x.1,ab .i64 (x.2.1+1),x.2.2.2.1,x.2.2.2.2.1)) (fun _=>h0 _);simp only[gc,show t.r.Methods=t.methods.map Cm.e from rfl,lα,fp (show(j:Int)<(t.methods.length:Int) by omega),aN,aU,be,bh hj,bw,GP,h0];simp only[h0]at h4;show iL (aK 100 (t.methods[j].name.length:Int)) _ (iL (aK 20 ((t.methods[j].params.map iE).length:Int)) _ (iL (aK 40 ((t.methods[j].locals.map iE).length:Int)) _ (iL (aK 120 ((t.methods[j].code.map Cd.e).length:Int)) _ _)))=_;rw[lα,lα,lα];unfold Lk;rw[show itL (ib (cq lay0.tab m) m _ _) m ((i:Int),(j:Int),0,c4 c,t.r,t.methods[j].r)=_ from h4];simp only[wS (show j<c9 by unfold c9;omega)];cases aK 100 (t.methods[j].name.length:Int)<;>cases aK 20 (t.methods[j].params.length:Int)<;>cases aK 40 (t.methods[j].locals.length:Int)<;>cases aK 120 (t.methods[j].code.length:Int)<;>cases t.methods[j].code.all (fun y=>y7 y.v)<;>rfl
 ·rw[aQ];simp only[gc,show t.r.Methods=t.methods.map Cm.e from rfl,lα,c8,aX]
 ·rw[iG];cases t.methods.findIdx? fun f=>!Lk f<;>rfl
def Xe (c:List Ct)(hc:Bc c):Ω (m+1) 10 [.p (c4 c).e] []=dQ (y8 c):=by
 apply XD m (c4 c);unfold Mu y8;have hl:c.length<2000000:=hc.n;show iL (aK 20 ((c.map Ct.e).length:Int)) _ (itL (fH _ _ _ _ _) _ (0,c4 c))=_;rw[lα];have run:itL (fH (cq lay0.tab m) m (fun _=>dQ false) (fun _=>dQ false) (fun _=>dQ true)) m (0,c4 c)=dQ (c.all P4):=by
  refine(br c (fun q j=>itL (fH (cq lay0.tab m) m (fun _=>dQ false) (fun _=>dQ false) (fun _=>dQ true)) q (j,c4 c)) (fun t=>!P4 t) (fun _=>dQ false) (dQ true) (fun q j hj=>?_) (fun q=>?_) (by omega)).trans ?_
  ·rw[aQ];have ht:=hc.t _ (lμ hj);have h3:=aby hm c c[j] ht j (Er:=dQ false) (fun _=>dQ false) (fun x=>itL (fH (cq lay0.tab m) m (fun _=>dQ false) (fun _=>dQ false) (fun _=>dQ true)) q (ab .i64 (x.1+1),x.2.2.1)) (fun _=>rfl);have h2:=abx hm c c[j] ht j (Er:=dQ false) (fun _=>dQ false) (fun x=>itL (gc (cq lay0.tab m) m (fun _=>dQ false) (fun x=>itL (fH (cq lay0.tab m) m (fun _=>dQ false) (fun _=>dQ false) (fun _=>dQ true)) q (ab .i64 (x.1+1),x.2.2.1))) m (x.1,0,x.2.2.1,x.2.2.2)) (fun _=>rfl)
   simp only[h3]at h2;simp only[fH,show(c4 c).Types=c.map Ct.e from rfl,lα,fp (show(j:Int)<(c.length:Int) by omega),aN,aU,be,bh hj,bw,CU];show iL (aK 100 (c[j].name.length:Int)) _ (iL (aK 20 ((c[j].fields.map Fe.e).length:Int)) _ (iL (aK 20 ((c[j].methods.map Cm.e).length:Int)) _ _))=_;rw[lα,lα];rw[show itL (hZ (cq lay0.tab m) m _ _) m ((j:Int),0,c4 c,c[j].r)=_ from h2];unfold P4;simp only[wS (show j<c9 by unfold c9;omega)];cases aK 100 (c[j].name.length:Int)<;>cases aK 20 (c[j].fields.length:Int)<;>cases aK 20 (c[j].methods.length:Int)<;>cases c[j].fields.all Qj<;>cases c[j].methods.all Lk<;>rfl
  ·rw[aQ];simp only[fH,show(c4 c).Types=c.map Ct.e from rfl,lα,c8,aX]
  ·rw[iG];cases c.findIdx? fun t=>!P4 t<;>rfl
 cases aK 20 (c.length:Int)with
 |true=>rfl
 |false=>exact run
end
end
abbrev Ek:=LI×LI
def Ek.e (e:Ek):Da:= .agg [.slice 1 (e.1.map iE),.slice 1 (e.2.map iE)]
def m7 (l:List Ek):R:=some (pL 2 (l.map Ek.e),[])
def t_ (k:Int)(h0:0<=a)(h1:a<17)(hm:30<=m):Ω m 246 [pI k,pI a] []=some (pL 1 ((List.replicate a.toNat k).map iE),[]):=by
 obtain⟨m,rfl⟩:=uD hm;apply O9 (m+29) k a;unfold AJ;have hs:Ω (m+29) 303 [pL 1 [.int .i64 k],pI a] []=some (pL 1 ((List.replicate a.toNat k).map iE),[]):=by
  apply Pk (m+28) [.int .i64 k] a;unfold AT;have hmul:Ω (m+28) 348 [.p (.int .u64 1),.p (.int .u64 a)] []=some (.tup [.p (.int .u64 0),.p (.int .u64 a)],[]):=by
   apply ĵ (m+27) 1 a;unfold Sk;have h64:Ω (m+27) 371 [.p (.int .u64 1),.p (.int .u64 a)] []=some (.tup [.p (.int .u64 0),.p (.int .u64 a)],[]):=by
    apply SW (m+26) 1 a;have:a=0\/a=1\/a=2\/a=3\/a=4\/a=5\/a=6\/a=7\/a=8\/a=9\/a=10\/a=11\/a=12\/a=13\/a=14\/a=15\/a=16:=by omega
    rcases this with rfl|rfl|rfl|rfl|rfl|rfl|rfl|rfl|rfl|rfl|rfl|rfl|rfl|rfl|rfl|rfl|rfl<;>(show Fg _ _ _ _=some _;kernel_rfl)
   rw[ae h64];rfl
  rw[show ab .u64 ((List.length [Da.int .i64 k]:Nat):Int)=1 from rfl];have:a=0\/a=1\/a=2\/a=3\/a=4\/a=5\/a=6\/a=7\/a=8\/a=9\/a=10\/a=11\/a=12\/a=13\/a=14\/a=15\/a=16:=by omega
  rcases this with rfl|rfl|rfl|rfl|rfl|rfl|rfl|rfl|rfl|rfl|rfl|rfl|rfl|rfl|rfl|rfl|rfl<;>(refine(congrArg (iL _ none) (ae hmul _)).trans ?_;kernel_rfl)
 rw[ae hs];simp only[ba];rfl
def m8 (m:Cm):LI:=bif az m.res 0 then[]else[m.res]
def Ay (me:Cm)(hm:1<=m):Ω m 247 [.p me.e] []=some (pL 1 ((m8 me).map iE),[]):=by
 replace hm:=fuel hm;obtain⟨m,rfl,hm⟩:=hm;apply Pa m me.r;unfold AK m8;show iL (az me.res 0) _ _=_;cases az me.res 0<;>rfl
def Xg (a b:LI)(hm:1<=m):Ω m 245 [pL 1 (a.map iE),pL 1 (b.map iE)] []=m7 [(a,b)]:=by
 replace hm:=fuel hm;obtain⟨m,rfl,hm⟩:=hm;apply XE m (a.map iE) (b.map iE);rfl
def RJ (a b:LI)(hm:1<=m):Ω m 245 [.arr 0 0 a.length 1,pL 1 (b.map iE)] [.arr (a.map iE)]=some (pL 2 [Ek.e (a,b)],[.fz (a.map iE)]):=by
 replace hm:=fuel hm;obtain⟨m,rfl,hm⟩:=hm;apply SG m a.length (a.map iE) (b.map iE);unfold E1;rw[List.drop_zero,lξ (by rw[lα];omega)];rfl
def dh (c:List Ct)(t:Ct)(m:Cm)(x:Cd)(top:Int):Option (List Ek):=
 bif az x.op 1 then some [([],[x.v.k])]else bif az x.op 2 then(dK m.locals x.a).map (fun k=>[([],[k])])else bif az x.op 3 then(dK m.locals x.a).map (fun k=>[([k],[])])else
 bif az x.op 4 then(dK t.fields x.a).map (fun f=>[([],[f.kind])])else bif az x.op 5 then(dK t.fields x.a).map (fun f=>[([f.kind],[])])else
 bif az x.op 6 then some [([],[3])]else bif az x.op 7 then some [([1],[1])]else bif az x.op 8 then some [([2],[2])]else
 bif az x.op 9 then some [([1,1],[1])]else bif az x.op 11 then some [([1,1],[1])]else bif az x.op 12 then some [([1,1],[1])]else bif az x.op 13 then some [([1,1],[1])]else bif az x.op 14 then some [([1,1],[1])]else
 bif az x.op 10 then some [([3,3],[3])]else bif az x.op 15 then some [([top,top],[2])]else bif az x.op 16 then some [([top,top],[2])]else
 bif az x.op 17 then some [([1,1],[2]),([3,3],[2])]else bif az x.op 18 then some [([1,1],[2]),([3,3],[2])]else bif az x.op 19 then some [([1,1],[2]),([3,3],[2])]else bif az x.op 20 then some [([1,1],[2]),([3,3],[2])]else
 bif az x.op 21 then some [([3],[1]),([4],[1]),([5],[1])]else bif az x.op 22 then some [([4,1],[1]),([5,1],[3])]else bif az x.op 23 then some [([4,1],[4]),([5,3],[5])]else bif az x.op 24 then some [([4,1,1],[4]),([5,1,3],[5])]else
 bif az x.op 25 then some [([1],[3])]else bif az x.op 26 then some [(List.replicate x.a.toNat 1,[4])]else bif az x.op 27 then some [(List.replicate x.a.toNat 3,[5])]else
 bif az x.op 29 then some [([2],[])]else bif az x.op 30 then(fC c x.a x.b).map (fun q=>[(3::q.params,m8 q)])else bif az x.op 31 then some [([top],[])]else bif az x.op 32 then some [(m8 m,[])]else
 bif az x.op 34 then some [([3,1],[])]else bif az x.op 35 then some [([3,1,1],[])]else bif az x.op 36 then some [([3],[])]else some [([],[])]
def dE {β:Type}(f:β->R)(b:Bool)(X Y:R)(x y:Option β){r:β}(h:(bif b then x else y)=some r)(hx:x=some r->X=f r)(hy:y=some r->Y=f r):iL b X Y=f r:=by
 cases b
 ·exact hy h
 ·exact hx h
def Js (c:List Ct)(t:Ct)(me:Cm)(x:Cd)(top:Int)(hz:∀q,fC c x.a x.b=some q->q.params.length<1501)(hi:gY c t me x=true){l:List Ek}(h:dh c t me x top=some l)(hm:31<=m):Ω m 188 [.p (c4 c).e,.p t.e,.p me.e,.p x.e,pI top] []=m7 l:=by
 replace hm:=fuel hm;obtain⟨m,rfl,hm⟩:=hm;apply J7 m (c4 c) t.r me.r x.r top;unfold wR;unfold dh at h;have one:∀a b:LI,∀{A B:LD},A=a.map iE->B=b.map iE->(cq lay0.tab m 245 [pL 1 A,pL 1 B] [] fun d o=>dP d fun x=>cR 2 x fun l=>ag o<|some (pL 2 l,[]))=m7 [(a,b)]:=fun a b A B hA hB=>by
  subst hA hB;rw[ae (Xg a b (m:=m) (by omega))];rfl
 have z:∀{u v:List Ek},some u=some v->m7 u=m7 v:=fun e=>by rw[Option.some.inj e]
 have hrep:∀k:Int,fT x.a 17=true->Ω m 246 [pI k,pI x.a] []=some (pL 1 ((List.replicate x.a.toNat k).map iE),[]):=fun k hw=>by
  unfold fT at hw;rw[lγ,bk,bT,lδ,lδ]at hw;exact t_ k hw.1 hw.2 hm
 unfold gY at hi;rw[lγ,lγ (az x.op 1||eZ x.v v0)]at hi;replace hi:=hi.2.2;simp only[Cd.r,Cm.r,Ct.r,c4,aU,be,dI,Ũ,Fe.r];refine dE m7 _ _ _ _ _ h (fun h=>by rw[<-z h];exact one [] [x.v.k] rfl rfl) fun h=>?_
 refine dE m7 _ _ _ _ _ h (fun h=>?_) fun h=>?_
 ·cases hk:dK me.locals x.a with
  |none=>rw[hk]at h;cases h
  |some k=>rw[hk]at h;rw[<-z h,bw];exact one [] [k] rfl rfl
 refine dE m7 _ _ _ _ _ h (fun h=>?_) fun h=>?_
 ·cases hk:dK me.locals x.a with
  |none=>rw[hk]at h;cases h
  |some k=>rw[hk]at h;rw[<-z h,bw];exact one [k] [] rfl rfl
 refine dE m7 _ _ _ _ _ h (fun h=>?_) fun h=>?_
 ·cases hk:dK t.fields x.a with
  |none=>rw[hk]at h;cases h
  |some k=>rw[hk]at h;rw[<-z h,bw];exact one [] [k.kind] rfl rfl
 refine dE m7 _ _ _ _ _ h (fun h=>?_) fun h=>?_
 ·cases hk:dK t.fields x.a with
  |none=>rw[hk]at h;cases h
  |some k=>rw[hk]at h;rw[<-z h,bw];exact one [k.kind] [] rfl rfl
 refine dE m7 _ _ _ _ _ h (fun h=>by rw[<-z h];exact one [] [3] rfl rfl) fun h=>?_
 refine dE m7 _ _ _ _ _ h (fun h=>by rw[<-z h];exact one [1] [1] rfl rfl) fun h=>?_
 refine dE m7 _ _ _ _ _ h (fun h=>by rw[<-z h];exact one [2] [2] rfl rfl) fun h=>?_
 refine dE m7 _ _ _ _ _ h (fun h=>by rw[<-z h];exact one [1,1] [1] rfl rfl) fun h=>?_
 refine dE m7 _ _ _ _ _ h (fun h=>by rw[<-z h];exact one [1,1] [1] rfl rfl) fun h=>?_
 refine dE m7 _ _ _ _ _ h (fun h=>by rw[<-z h];exact one [1,1] [1] rfl rfl) fun h=>?_
 refine dE m7 _ _ _ _ _ h (fun h=>by rw[<-z h];exact one [1,1] [1] rfl rfl) fun h=>?_
 refine dE m7 _ _ _ _ _ h (fun h=>by rw[<-z h];exact one [1,1] [1] rfl rfl) fun h=>?_
 refine dE m7 _ _ _ _ _ h (fun h=>by rw[<-z h];exact one [3,3] [3] rfl rfl) fun h=>?_
 refine dE m7 _ _ _ _ _ h (fun h=>by rw[<-z h];exact one [top,top] [2] rfl rfl) fun h=>?_
 refine dE m7 _ _ _ _ _ h (fun h=>by rw[<-z h];exact one [top,top] [2] rfl rfl) fun h=>?_
 refine dE m7 _ _ _ _ _ h (fun h=>by rw[<-z h];rfl) fun h=>?_
 refine dE m7 _ _ _ _ _ h (fun h=>by rw[<-z h];rfl) fun h=>?_
 refine dE m7 _ _ _ _ _ h (fun h=>by rw[<-z h];rfl) fun h=>?_
 refine dE m7 _ _ _ _ _ h (fun h=>by rw[<-z h];rfl) fun h=>?_
 refine dE m7 _ _ _ _ _ h (fun h=>by rw[<-z h];rfl) fun h=>?_
 refine dE m7 _ _ _ _ _ h (fun h=>by rw[<-z h];rfl) fun h=>?_
 refine dE m7 _ _ _ _ _ h (fun h=>by rw[<-z h];rfl) fun h=>?_
 refine dE m7 _ _ _ _ _ h (fun h=>by rw[<-z h];rfl) fun h=>?_
 refine dE m7 _ _ _ _ _ h (fun h=>by rw[<-z h];exact one [1] [3] rfl rfl) fun h=>?_
 cases h26:az x.op 26 with
 |true=>
  rw[h26,cond_true]at h;have e:x.op=26:=by rw[bp]at h26;exact of_decide_eq_true h26
  rw[e]at hi;rw[aN,ae (hrep 1 hi),<-z h];simp only[ba];exact one _ [4] rfl rfl
 |false=>
 rw[h26,cond_false]at h;rw[aX];cases h27:az x.op 27 with
 |true=>
  rw[h27,cond_true]at h;have e:x.op=27:=by rw[bp]at h27;exact of_decide_eq_true h27
  rw[e]at hi;rw[aN,ae (hrep 3 hi),<-z h];simp only[ba];exact one _ [5] rfl rfl
 |false=>
 rw[h27,cond_false]at h;rw[aX];refine dE m7 _ _ _ _ _ h (fun h=>by rw[<-z h];exact one [2] [] rfl rfl) fun h=>?_
 refine dE m7 _ _ _ _ _ h (fun h=>?_) fun h=>?_
 ·cases hk:fC c x.a x.b with
  |none=>rw[hk]at h;cases h
  |some q=>
   rw[hk]at h;rw[<-z h];unfold fC at hk;cases ht:dK c x.a with
   |none=>rw[ht]at hk;cases hk
   |some t2=>
    rw[ht,Option.bind_some]at hk;rw[bw,CU];show cL (bI (t2.methods.map Cm.e) x.b) _=_;rw[aU,be,hk,bw,GP];have hb:=Ay (m:=m) q (by omega);have hq:=hz q (by unfold fC;rw[ht];exact hk);simp only[show q.e= .agg [.str q.r.Name,.slice 1 q.r.Params,.int .i64 q.r.Result,.slice 1 q.r.Locals,.slice 8 q.r.Code]from rfl]at hb;simp only[ae hb,ba,mX,aC];show iL _ (cq lay0.tab m 245 [pL 1 [Da.int .i64 3],pL 1 ((m8 q).map iE)] [] _) (iL _ (cq lay0.tab m 245 [.arr 0 0 ([Da.int .i64 3]++q.params.map iE).length 1,pL 1 ((m8 q).map iE)] [.arr ([Da.int .i64 3]++q.params.map iE)] _) none)=_;cases hp:q.params with
    |nil=>
     rw[show(!List.isEmpty [Da.int .i64 3]&&List.isEmpty q.r.Params)=true by rw[show q.r.Params=([]:LI).map iE by rw[<-hp];rfl];rfl,aN]
     exact one [3] (m8 q) rfl rfl
    |cons p r=>
     have hA:=RJ (m:=m) (3::q.params) (m8 q) (by omega);rw[hp]at hA;rw[show(!List.isEmpty [Da.int .i64 3]&&List.isEmpty q.r.Params)=false by rw[show q.r.Params=(p::r).map iE by rw[<-hp];rfl];rfl,aX]
     rw[show cI (List.length [Da.int .i64 3]+List.length q.r.Params) 8=true from dz (by rw[show q.r.Params=q.params.map iE from rfl,lα];simp only[List.length_singleton];omega) (by omega),aN];have hl:([Da.int .i64 3]++(p::r).map iE).length=(3::p::r).length:=by simp
     rw[hl];refine(ae hA _).trans ?_;rfl
 refine dE m7 _ _ _ _ _ h (fun h=>by rw[<-z h];exact one [top] [] rfl rfl) fun h=>?_
 refine dE m7 _ _ _ _ _ h (fun h=>?_) fun h=>?_
 ·rw[<-z h];have hb:=Ay (m:=m) me (by omega);simp only[show me.e= .agg [.str me.name,.slice 1 (me.params.map iE),.int .i64 me.res,.slice 1 (me.locals.map iE),.slice 8 (me.code.map Cd.e)]from rfl]at hb;simp only[ae hb,ba];exact one _ [] rfl rfl
 refine dE m7 _ _ _ _ _ h (fun h=>by rw[<-z h];exact one [3,1] [] rfl rfl) fun h=>?_
 refine dE m7 _ _ _ _ _ h (fun h=>by rw[<-z h];exact one [3,1,1] [] rfl rfl) fun h=>?_
 refine dE m7 _ _ _ _ _ h (fun h=>by rw[<-z h];exact one [3] [] rfl rfl) fun h=>?_
 rw[<-z h];exact one [] [] rfl rfl
def zG (o:Int)(st:LI):List Ek->LI×Bool
 |[]=>([],false)
 |e::r=>bif decide (st.length<e.1.length)then zG o st r else bif decide (st.drop (st.length - e.1.length)=e.1)then(bif decide (0<st.length - e.1.length)&&(az o 32||az o 30)then([],false)else(st.take (st.length - e.1.length)++e.2,decide (st.length - e.1.length+e.2.length<=40)))else zG o st r
def dT (st:LI):Int:=st.getLastD 0
def xF (c:List Ct)(t:Ct)(m:Cm)(x:Cd)(st:LI):Option (LI×Bool):=
 bif st.isEmpty&&(az x.op 15||(az x.op 16||az x.op 31))then some ([],false)else(dh c t m x (dT st)).map (zG x.op st)
def rAf (r:LI×Bool):R:=some (.tup [pL 1 (r.1.map iE),pB r.2],[])
def Ŵ {c:List Ct}{t:Ct}{m:Cm}{x:Cd}{top:Int}(hz:∀q,fC c x.a x.b=some q->q.params.length<1501)(hi:gY c t m x=true){l:List Ek}(h:dh c t m x top=some l):l.length<=3/\∀e∈l,e.1.length<1502/\e.2.length<=1:=by
 have hr:∀q:Cm,(m8 q).length<=1:=fun q=>by unfold m8;cases az q.res 0<;>simp
 unfold gY at hi;rw[lγ,lγ (az x.op 1||eZ x.v v0)]at hi;replace hi:=hi.2.2;unfold dh at h;have s:∀{a b:LI},a.length<1502->b.length<=1->some [(a,b)]=some l->l.length<=3/\∀e∈l,e.1.length<1502/\e.2.length<=1:=fun h1 h2 h=>by
  obtain rfl:=Option.some.inj h;refine⟨by simp,fun e he=>?_⟩
  obtain rfl:=List.mem_singleton.1 he;exact⟨h1,h2⟩
 have b:∀{u:Bool} {x y:Option (List Ek)} {P:Prop},(bif u then x else y)=some l->(u=true->x=some l->P)->(u=false->y=some l->P)->P:=fun {u} _ _ _ h h1 h2=>match u,h,h1,h2 with
  |false,h,_,h2=>h2 rfl h
  |true,h,h1,_=>h1 rfl h
 have mp:∀{γ:Type} {o:Option γ} {f:γ->List Ek} {P:Prop},o.map f=some l->(∀g,o=some g->some (f g)=some l->P)->P:=fun {γ o f P} h h1=>by
  cases o with
  |none=>cases h
  |some g=>exact h1 g rfl h
 refine b h (fun _ h=>s (by simp) (by simp) h) fun _ h=>?_
 refine b h (fun _ h=>mp h fun g _ h=>s (by simp) (by simp) h) fun _ h=>?_
 refine b h (fun _ h=>mp h fun g _ h=>s (by simp) (by simp) h) fun _ h=>?_
 refine b h (fun _ h=>mp h fun g _ h=>s (by simp) (by simp) h) fun _ h=>?_
 refine b h (fun _ h=>mp h fun g _ h=>s (by simp) (by simp) h) fun _ h=>?_
 iterate 11 refine b h (fun _ h=>s (by simp) (by simp) h) fun _ h=>?_
 iterate 8 refine b h (fun _ h=>by obtain rfl:=Option.some.inj h;simp) fun _ h=>?_
 refine b h (fun _ h=>s (by simp) (by simp) h) fun _ h=>?_
 have hw:fT x.a 17=true->x.a.toNat<1502:=fun hw=>by
  unfold fT at hw;rw[lγ,bk,bT,lδ,lδ]at hw;omega
 refine b h (fun h1 h=>s (by rw[mν];rw[bp,lδ]at h1;rw[h1]at hi;exact hw hi) (by simp) h) fun _ h=>?_
 refine b h (fun h1 h=>s (by rw[mν];rw[bp,lδ]at h1;rw[h1]at hi;exact hw hi) (by simp) h) fun _ h=>?_
 refine b h (fun _ h=>s (by simp) (by simp) h) fun _ h=>?_
 refine b h (fun _ h=>mp h fun g hg h=>s (by rw[List.length_cons];have:=hz g hg;omega) (hr g) h) fun _ h=>?_
 refine b h (fun _ h=>s (by simp) (by simp) h) fun _ h=>?_
 refine b h (fun _ h=>s (by have:=hr m;omega) (by simp) h) fun _ h=>?_
 iterate 3 refine b h (fun _ h=>s (by simp) (by simp) h) fun _ h=>?_
 exact s (by simp) (by simp) h
def Gx {m:Nat}(x:Cd)(st:LI)(l:List Ek)(hs:st.length<1501)(hl:∀e∈l,e.1.length<1502/\e.2.length<=1)(hll:l.length<100)(hm:1510<=m):∀(d q i:Nat),i+d=l.length->d<q->itL (f4 (cq lay0.tab m) m (fun(u18,u19)=>
  some ((.tup [(pL 1 []),(pB false)]),[])) (fun(l20,b21,u22,u23)=>
  some ((.tup [(pL 1 l20),(pB b21)]),[])) (fun(n24,b25,u26,u27,l28)=>
  some ((.tup [(pL 1 (List.take n24 (List.drop 0 l28))),(pB b25)]),[])) (fun(l29,l30,i31,i32,b33,u34)=>
  some ((.tup [(pL 1 []),(pB false)]),[]))) q (st.map iE,l.map Ek.e,(l.length:Int),(i:Int),x.r)=rAf (zG x.op st (l.drop i))
 |0,q+1,i,h,_=>by
  obtain rfl:i=l.length:=by omega
  rw[aQ,List.drop_length];simp only[f4,c8,aX];rfl
 |d+1,q+1,i,h,hq=>by
  have hi:i<l.length:=by omega
  obtain⟨he1,he2⟩:=hl _ (lμ hi);have hY:=Gx x st l hs hl hll hm d q (i+1) (by omega) (by omega);rw[aQ,mμ hi];rw[zG];simp only[f4,fp (show((i:Int)<(l.length:Int)) by omega),aN,aU,be,bh hi,bw,wS (show i<c9 by unfold c9;omega),hY];generalize l[i]=e at he1 he2;rw[show ∀K,bv e.e K=K ⟨e.1.map iE,e.2.map iE⟩from fun _=>rfl];simp only[lα];by_cases h1:st.length<e.1.length
  ·rw[lκ h1,cond_true,fp (show ab .i64 ((st.length:Int) - (e.1.length:Int))<0 by rw[cV (by omega) (by omega)];omega),aN]
  ·rw[mβ h1,cond_false];have hw:ab .i64 ((st.length:Int) - (e.1.length:Int))=((st.length - e.1.length:Nat):Int):=by rw[cV (by omega) (by omega)];omega
   rw[hw];rw[Ru (show ¬((st.length - e.1.length:Nat):Int)<0 by omega),aX];have h2:aV 0 ((st.length - e.1.length:Nat):Int)=true:=by rw[bk];exact lκ (by omega)
   have h3:aV ((st.length - e.1.length:Nat):Int) (st.length:Int)=true:=by rw[bk];exact lκ (by omega)
   have h4:aV ((st.length - e.1.length:Nat):Int) ((st.length - e.1.length:Nat):Int)=true:=by rw[bk];exact lκ (by omega)
   simp only[h2,h3,h4,aN,Int.toNat_natCast,<-List.map_drop,Nat.beq_refl,Nat.sub_zero,List.drop_zero,<-List.map_take];rw[lξ (l:=st.drop (st.length - e.1.length)) (by rw[mχ];omega)];rw[ae (Jw (m:=m) (st.drop (st.length - e.1.length)) e.1 (.inl (by rw[mχ];omega)) (by omega))];simp only[ba,aL];refine(cd _ _).trans ?_;cases decide (st.drop (st.length - e.1.length)=e.1)
   ·rfl
   rw[cond_true,Bool.not_true,aX];have h5:ab .i64 (((st.length - e.1.length:Nat):Int)+(e.2.length:Int))=((st.length - e.1.length+e.2.length:Nat):Int):=by rw[cV (by omega) (by omega)];omega
   have h6:aV ((st.length - e.1.length+e.2.length:Nat):Int) 40=decide (st.length - e.1.length+e.2.length<=40):=by rw[bk];exact decide_eq_decide.2 (by omega)
   have h7:cI (((st.take (st.length - e.1.length)).map iE).length+(e.2.map iE).length) 8=true:=dz (by rw[lα,mε,lα];omega) (by omega);have h8:aK 0 ((st.length - e.1.length:Nat):Int)=decide (0<st.length - e.1.length):=by rw[bT];exact decide_eq_decide.2 (by omega)
   rw[lα,lα]at h7;have h9:List.take ((st.take (st.length - e.1.length)).map iE++e.2.map iE).length ((st.take (st.length - e.1.length)).map iE++e.2.map iE)=(st.take (st.length - e.1.length)++e.2).map iE:=by rw[List.take_length,List.map_append]
   have gu:(iL (!List.isEmpty ((st.take (st.length - e.1.length)).map iE)&&List.isEmpty (e.2.map iE)) (some (.tup [pL 1 ((st.take (st.length - e.1.length)).map iE),pB (decide (st.length - e.1.length+e.2.length<=40))],[]):R) (some (.tup [pL 1 ((st.take (st.length - e.1.length)++e.2).map iE),pB (decide (st.length - e.1.length+e.2.length<=40))],[])))=rAf (st.take (st.length - e.1.length)++e.2,decide (st.length - e.1.length+e.2.length<=40)):=by
    cases he:e.2 with
    |nil=>rw[mη];generalize(!List.isEmpty _&&_)=b;cases b<;>rfl
    |cons p r=>rw[show(!List.isEmpty ((st.take (st.length - e.1.length)).map iE)&&List.isEmpty ((p::r).map iE))=false from Bool.and_false _];rfl
   simp only[Cd.r,h5,h6,h7,h8,h9,aN,lα];cases h10:decide (0<st.length - e.1.length)with
   |false=>exact gu
   |true=>
    cases az x.op 32
    ·cases az x.op 30
     ·exact gu
     ·rfl
    ·rfl
def RF (c:List Ct)(t:Ct)(me:Cm)(x:Cd)(st:LI)(hs:st.length<1501)(hz:∀q,fC c x.a x.b=some q->q.params.length<1501)(hi:gY c t me x=true){r:LI×Bool}(h:xF c t me x st=some r)(hm:1511<=m):Ω m 108 [.p (c4 c).e,.p t.e,.p me.e,.p x.e,pL 1 (st.map iE)] []=rAf r:=by
 replace hm:=fuel hm;obtain⟨m,rfl,hm⟩:=hm;apply SC m (c4 c) t.r me.r x.r (st.map iE);unfold EX;rw[lα];have key:∀{l:List Ek} {top:Int},dh c t me x top=some l->zG x.op st l=r->(cq lay0.tab m 188 [.p (.agg [.slice 3 (c4 c).Types]),.p (.agg [.str t.r.Name,.slice 7 t.r.Fields,.slice 5 t.r.Methods]),.p (.agg [.str me.r.Name,.slice 1 me.r.Params,.int .i64 me.r.Result,.slice 1 me.r.Locals,.slice 8 me.r.Code]),.p x.r.e,pI top] [] fun d3 o4=>
  dP d3 fun x5=>
  cR 2 x5 fun l6=>
  ag o4<|
  itL (f4 (cq lay0.tab m) m (fun(u18,u19)=>
  some ((.tup [(pL 1 []),(pB false)]),[])) (fun(l20,b21,u22,u23)=>
  some ((.tup [(pL 1 l20),(pB b21)]),[])) (fun(n24,b25,u26,u27,l28)=>
  some ((.tup [(pL 1 (List.take n24 (List.drop 0 l28))),(pB b25)]),[])) (fun(l29,l30,i31,i32,b33,u34)=>
  some ((.tup [(pL 1 []),(pB false)]),[]))) m (st.map iE,l6,↑(List.length l6),0,x.r))=rAf r:=fun {l top} he ha=>by
  obtain⟨hn,hl⟩:=Ŵ hz hi he;refine(ae (Js c t me x top hz hi he (m:=m) (by omega)) _).trans ?_;rw[ba,mX,aC,lα];refine(Gx x st l hs hl (by omega) (by omega) l.length m 0 (by omega) (by omega)).trans ?_;rw[List.drop_zero,ha]
 unfold xF at h;cases st with
 |nil=>
  rw[show aK 0 ((([]:LI).length:Nat):Int)=false from rfl,aX];have hc:(([]:LI).isEmpty&&(az x.op 15||(az x.op 16||az x.op 31)))=(az x.op 15||(az x.op 16||az x.op 31)):=rfl;rw[hc]at h;show iL (az x.op 15) _ (iL (az x.op 16) _ (iL (az x.op 31) _ _))=_;cases h15:az x.op 15 with
  |true=>rw[h15]at h;rw[<-Option.some.inj h];rfl
  |false=>
  cases h16:az x.op 16 with
  |true=>rw[h15,h16]at h;rw[<-Option.some.inj h];rfl
  |false=>
  cases h31:az x.op 31 with
  |true=>rw[h15,h16,h31]at h;rw[<-Option.some.inj h];rfl
  |false=>
   rw[h15,h16,h31]at h;change (dh c t me x 0).map _=_ at h;cases he:dh c t me x 0 with
   |none=>rw[he]at h;cases h
   |some l=>rw[he]at h;exact key he (Option.some.inj h)
 |cons a r'=>
  rw[show aK 0 (((a::r').length:Nat):Int)=true from fp (by simp only[List.length_cons];omega),aN];change (dh c t me x (dT (a::r'))).map _=_ at h;have hg:bI ((a::r').map iE) (ab .i64 (((a::r').length:Int) - 1))=some (iE (dT (a::r'))):=by
   rw[cV (by omega) (by omega),aU,show(((a::r').length:Nat):Int) - 1=(((a::r').length - 1:Nat):Int) by simp only[List.length_cons];omega,qX];unfold dT;rw[List.getLastD_cons,<-List.getLast?_eq_getElem?,List.getLast?_cons,<-List.getLastD_eq_getLast?];rfl
  rw[hg,bw];cases he:dh c t me x (dT (a::r'))with
  |none=>rw[he]at h;cases h
  |some l=>rw[he]at h;exact key he (Option.some.inj h)
def fo (m:Cm)(pc:Nat)(x:Cd):LI×Bool:=
 bif az x.op 32 then([],true)else bif az x.op 33 then([],true)else bif az x.op 28 then([x.a],true)else bif decide (pc+1=m.code.length)then([],false)else bif az x.op 29 then([((pc+1:Nat):Int),x.a],true)else([((pc+1:Nat):Int)],true)
def Xh (me:Cm)(pc:Nat)(h:pc<me.code.length)(hc:me.code.length<1501)(hm:1<=m):Ω m 109 [.p me.e,pI pc] []=rAf (fo me pc me.code[pc]):=by
 replace hm:=fuel hm;obtain⟨m,rfl,hm⟩:=hm;apply XG m me.r pc;unfold Mx fo;show cL (bI (me.code.map Cd.e) pc) _=_;rw[aU,be,bh h,bw,W6,wS (show pc<c9 by unfold c9;omega)];show iL (az me.code[pc].op 32) _ (iL (az me.code[pc].op 33) _ (iL (az me.code[pc].op 28) _ (iL (az ((pc+1:Nat):Int) ((me.code.map Cd.e).length:Int)) _ (iL (az me.code[pc].op 29) _ _))))=_;rw[lα,bp ((pc+1:Nat):Int),show decide (((pc+1:Nat):Int)=(me.code.length:Int))=decide (pc+1=me.code.length)from decide_eq_decide.2 (by omega)];cases az me.code[pc].op 32<;>cases az me.code[pc].op 33<;>cases az me.code[pc].op 28<;>cases decide (pc+1=me.code.length)<;>cases az me.code[pc].op 29<;>rfl
section
structure SV where
 r:Bool
 st:LI
 set:Nat
def SV.e (v:SV):Da:= .agg [.bool v.r,.slice 1 (v.st.map iE),.int .u64 v.set]
def P_ (v:SV)(K:bt->R):aW v.e K=K ⟨v.r,v.st.map iE,v.set⟩:=rfl
def ĥ {n:Nat}(h:n<18446744073709551616):ab .u64 (n:Int)=n:=by
 have:Nat.blt n 18446744073709551616=true:=by rw[Nat.blt_eq];exact h
 show(bif Nat.blt n 18446744073709551616 then Int.ofNat n else _)=_;rw[this];rfl
variable {a:Nat}
def z_ {b:Nat}(ha:a<256)(hb:b<256):ab .u64 ((BitVec.toNat (BitVec.ofInt (IntKind.bits .u64) (a:Int) &&& BitVec.ofInt (IntKind.bits .u64) (b:Int)):Nat):Int)=((a &&& b:Nat):Int):=by
 show ab .u64 ((BitVec.toNat (BitVec.ofInt 64 (a:Int) &&& BitVec.ofInt 64 (b:Int)):Nat):Int)=_;rw[BitVec.ofInt_natCast,BitVec.ofInt_natCast,BitVec.toNat_and,BitVec.toNat_ofNat,BitVec.toNat_ofNat,Nat.mod_eq_of_lt (by omega),Nat.mod_eq_of_lt (by omega)];have:= @Nat.and_le_left a b;exact ĥ (by omega)
def orU {b:Nat}(ha:a<256)(hb:b<256):ab .u64 ((BitVec.toNat (BitVec.ofInt (IntKind.bits .u64) (a:Int) ||| BitVec.ofInt (IntKind.bits .u64) (b:Int)):Nat):Int)=((a ||| b:Nat):Int):=by
 show ab .u64 ((BitVec.toNat (BitVec.ofInt 64 (a:Int) ||| BitVec.ofInt 64 (b:Int)):Nat):Int)=_;rw[BitVec.ofInt_natCast,BitVec.ofInt_natCast,BitVec.toNat_or,BitVec.toNat_ofNat,BitVec.toNat_ofNat,Nat.mod_eq_of_lt (by omega),Nat.mod_eq_of_lt (by omega)];have:=Nat.or_lt_two_pow (x:=a) (y:=b) (n:=8) (by omega) (by omega);exact ĥ (by omega)
def abs (ha:a<8):ab .u64 (1*2 ^ min a (IntKind.bits .u64))=((2 ^ a:Nat):Int):=by
 have:a=0\/a=1\/a=2\/a=3\/a=4\/a=5\/a=6\/a=7:=by omega
 rcases this with rfl|rfl|rfl|rfl|rfl|rfl|rfl|rfl<;>rfl
def F_ {i:Nat}(ha:a<256)(hi:i<64):ab .u64 ((BitVec.toNat (BitVec.ofInt (IntKind.bits .u64) (Int.fdiv (a:Int) (2 ^ min i (IntKind.bits .u64))) &&& BitVec.ofInt (IntKind.bits .u64) 1):Nat):Int)=bif a.testBit i then 1 else 0:=by
 have h1:Int.fdiv (a:Int) (2 ^ min i (IntKind.bits .u64))=((a / 2 ^ i:Nat):Int):=by
  rw[show min i (IntKind.bits .u64)=i from Nat.min_eq_left (by show i<=64;omega)];rw[show(2 ^ i:Int)=((2 ^ i:Nat):Int)from(Int.natCast_pow 2 i).symm▸rfl];exact(Int.fdiv_eq_ediv_of_nonneg _ (Int.natCast_nonneg _)).trans (Int.natCast_ediv _ _).symm
 rw[h1,show(1:Int)=((1:Nat):Int)from rfl,z_ (by have:=Nat.div_le_self a (2 ^ i);omega) (by omega),Nat.and_one_is_mod,Nat.testBit_eq_decide_div_mod_eq];rcases Nat.mod_two_eq_zero_or_one (a / 2 ^ i)with h|h<;>rw[h]<;>rfl
def Ix (st:LI)(set:Nat)(to:Int)(s:List SV)(w:LN):Option (List SV×LN):=
 match s[to.toNat]? with
 |none=>none
 |some v=>bif v.r then(bif decide (v.st=st)then(bif decide (v.set &&& set=v.set)then some (s,w)else some (s.set to.toNat ⟨v.r,v.st,v.set &&& set⟩,to.toNat::w))else none)else some (s.set to.toNat ⟨true,st,set⟩,to.toNat::w)
def m1 (st:LI)(set:Nat):LI->List SV->LN->Option (List SV×LN)
 |[],s,w=>some (s,w)
 |to::r,s,w=>(Ix st set to s w).bind fun p=>m1 st set r p.1 p.2
def m9 (x:Cd)(set:Nat):Nat:=bif az x.op 3 then set ||| 2 ^ x.a.toNat else set
def qV (c:List Ct)(t:Ct)(m:Cm):Nat->List SV->LN->Option (List SV)
 |0,s,_=>some s
 |_+1,s,[]=>some s
 |e+1,s,pc::w=>
  match m.code[pc]?,s[pc]? with
  |some x,some v=>
   match xF c t m x v.st with
   |some (st,true)=>bif(fo m pc x).2 then(m1 st (m9 x v.set) (fo m pc x).1 s w).bind fun p=>qV c t m e p.1 p.2 else none
   |_=>none
  |_,_=>none
def wE (p:Nat):Da:=iE p
structure CC (m:Cm)(s:List SV):Prop where
 n:s.length=m.code.length
 v:∀v∈s,v.st.length<=40/\v.set<256
def LK:List SV->Nat
 |[]=>0
 |v::r=>(bif v.r then v.set else 256)+LK r
def wx:∀(s:List SV) (i:Nat) (h:i<s.length) (v:SV),LK (s.set i v)+(bif s[i].r then s[i].set else 256)=LK s+(bif v.r then v.set else 256)
 |u::r,0,_,v=>by simp only[List.set_cons_zero,LK,List.getElem_cons_zero];omega
 |u::r,i+1,h,v=>by
  have:=wx r i (by simpa using h) v;simp only[List.set_cons_succ,LK,List.getElem_cons_succ];omega
def CC.set {m:Cm}{s:List SV}(h:CC m s)(i:Nat){v:SV}(h1:v.st.length<=40)(h2:v.set<256):CC m (s.set i v):=by
 refine⟨by rw[List.length_set];exact h.n,fun u hu=>?_⟩
 rcases List.mem_or_eq_of_mem_set hu with hu|rfl
 ·exact h.v u hu
 ·exact⟨h1,h2⟩
def M5 {b:Nat}(h:a<256):a &&& b<256:=Nat.lt_of_le_of_lt Nat.and_le_left h
variable {st:LI} {w:LN}
def ϥ {me:Cm}{set:Nat}{to:Int}{s s':List SV}{w':LN}(h:Ix st set to s w=some (s',w'))(hs:CC me s)(h1:st.length<=40)(h2:set<256):CC me s'/\w'.length+LK s'<=w.length+LK s/\w'.length<=w.length+1/\∀p∈w',p∈w\/(p<me.code.length/\p=to.toNat):=by
 unfold Ix at h;cases hv:s[to.toNat]? with
 |none=>rw[hv]at h;cases h
 |some v=>
  rw[hv]at h;obtain⟨hl,hg⟩:=List.getElem?_eq_some_iff.1 hv;have hvm:=hs.v v (hg▸lμ hl);have hp:=fun u=>wx s to.toNat hl u
  rw[hg]at hp;have hl':to.toNat<me.code.length:=by rw[<-hs.n];exact hl
  have hmem:∀p∈to.toNat::w,p∈w\/(p<me.code.length/\p=to.toNat):=fun p hp=>by
   rcases mγ.1 hp with rfl|hp
   ·exact .inr ⟨hl',rfl⟩
   ·exact .inl hp
  revert h
  show(bif v.r then _ else _)=_->_;cases hr:v.r with
  |true=>
   rw[hr]at hp;by_cases e1:v.st=st
   ·by_cases e2:v.set &&& set=v.set
    ·simp only[lκ e1,lκ e2,cond_true];rintro h;cases h;exact⟨hs,Nat.le_refl _,by omega,fun p hp=> .inl hp⟩
    ·simp only[lκ e1,mβ e2,cond_true,cond_false];rintro h;cases h;have:=hp ⟨true,v.st,v.set &&& set⟩;simp only[cond_true]at this;have:= @Nat.and_le_left v.set set;exact⟨hs.set _ hvm.1 (M5 hvm.2),by simp only[List.length_cons];omega,by simp,hmem⟩
   ·simp only[mβ e1,cond_true,cond_false];rintro h;cases h
  |false=>
   rw[hr]at hp;rintro h;cases h;have:=hp ⟨true,st,set⟩;simp only[cond_true,cond_false]at this;exact⟨hs.set _ h1 h2,by simp only[List.length_cons];omega,by simp,hmem⟩
def å {wl:LD}(to:Nat)(h:wl.take w.length=w.reverse.map wE):(wl.take w.length++[wE to]).take (to::w).length=(to::w).reverse.map wE/\(wl.take w.length++List.take 1 (List.drop 0 [wE to])).length=(to::w).length:=by
 have hl:(wl.take w.length++[wE to]).length=(to::w).length:=by rw[h];simp
 refine⟨?_,hl⟩;rw[<-hl,List.take_length,h,List.reverse_cons,List.map_append];rfl
def ϴ {wl:LD}{pc:Nat}(h:wl.take (pc::w).length=(pc::w).reverse.map wE):wl[w.length]?=some (wE pc)/\wl.take w.length=w.reverse.map wE:=by
 rw[List.reverse_cons,List.map_append]at h;constructor
 ·have:=congrArg (fun l:LD=>l[w.length]?) h;simp only[List.getElem?_take,List.length_cons,Nat.lt_succ_self,if_true]at this;rw[this,lπ (by simp)];simp
 ·have:=congrArg (List.take w.length) h;rw[List.take_take,List.length_cons,Nat.min_eq_left (by omega)]at this;rw[this,List.take_append_of_le_length (by simp),lξ (by simp)]
def mP {α:Type}(o:Option α)(E:Prop)(K:α->Prop):Prop:=match o with|none=>E|some a=>K a
section
variable {m:Nat} (c:List Ct) (t:Ct) (me:Cm)
def TZ (hc:me.code.length<1501)(hm:2000<=m){Er:R}{k0:_->R}{k1:_->R}(hk0:∀x,k0 x=Er)(st:LI)(set:Nat)(h1:st.length<=40)(h2:set<256)(tos:LI)(ht:∀k∈tos,0<=k/\k<me.code.length)(htl:tos.length<100):∀(d q i:Nat) (s:List SV) (w:LN) (wl:LD),CC me s->wl.take w.length=w.reverse.map wE->w.length+d<1000000->i+d=tos.length->d<q->
  mP (m1 st set (tos.drop i) s w) (itL (eg (cq lay0.tab m) m k0 k1) q (me.code.length,w.length,st.map iE,(set:Int),tos.map iE,(tos.length:Int),(i:Int),c4 c,t.r,me.r,s.map SV.e,wl)=Er) (fun p=>∃wl',wl'.take p.2.length=p.2.reverse.map wE/\itL (eg (cq lay0.tab m) m k0 k1) q (me.code.length,w.length,st.map iE,(set:Int),tos.map iE,(tos.length:Int),(i:Int),c4 c,t.r,me.r,s.map SV.e,wl)=k1 (me.code.length,p.2.length,st.map iE,(set:Int),tos.map iE,(tos.length:Int),(tos.length:Int),c4 c,t.r,me.r,p.1.map SV.e,wl'))
 |0,q+1,i,s,w,wl,hs,hw,hb,h,_=>by
  obtain rfl:i=tos.length:=by omega
  rw[List.drop_length];refine⟨wl,hw,?_⟩;rw[aQ];simp only[eg,c8,aX]
 |d+1,q+1,i,s,w,wl,hs,hw,hb,h,hq=>by
  have hi:i<tos.length:=by omega
  obtain⟨g0,g1⟩:=ht _ (lμ hi);have hl:tos[i].toNat<s.length:=by rw[hs.n];omega
  have hv:=hs.v _ (lμ hl);have hd:=mμ hi;rw[hd,m1,aQ];have hg:(s.map SV.e)[0+tos[i].toNat]?=some (s[tos[i].toNat].e):=by rw[Nat.zero_add,lσ,lη hl];rfl
  have b0:aV 0 tos[i]=true:=by rw[bk];exact lκ g0
  have hb1:cI ((wl.take w.length).length+(List.take 1 (List.drop 0 [Da.int .i64 tos[i]])).length) 8=true:=dz (by rw[hw,lα,List.length_reverse];show w.length+1<_;omega) (by omega);have e2:∀a:Nat,az ((a &&& set:Nat):Int) (a:Int)=decide (a &&& set=a):=fun a=>by
   rw[bp];exact decide_eq_decide.2 (by omega)
  have ew:Da.int .i64 tos[i]=wE tos[i].toNat:=by unfold wE iE;rw[mυ g0]
  obtain⟨tp1,tp2⟩:=å tos[i].toNat hw;have step:=fun(s':List SV) (hs':CC me s')=>TZ hc hm (k1:=k1) hk0 st set h1 h2 tos ht htl d q (i+1) s' (tos[i].toNat::w) (wl.take w.length++[wE tos[i].toNat]) hs' tp1 (by simp only[List.length_cons];omega) (by omega) (by omega)
  have same:=TZ hc hm (k1:=k1) hk0 st set h1 h2 tos ht htl d q (i+1) s w wl hs hw (by omega) (by omega) (by omega);simp only[eg,fp (show((i:Int)<(tos.length:Int)) by omega),aN,aU,be,bh hi,bw,dI,b0,fp g1,hg,show VF (s[tos[i].toNat].e)=true from rfl,P_,wS (show i<c9 by unfold c9;omega),hk0,e2,z_ hv.2 h2,hb1,ae (Jw (m:=m) (s[tos[i].toNat].st) st (.inl (by omega)) (by omega)),ba,aL,cd]
  unfold Ix;rw[lη hl];rw[ew,tp2,Nat.zero_add];show mP (Option.bind (bif s[tos[i].toNat].r then _ else _) _) _ _;have hset:∀u:SV,(s.map SV.e).set tos[i].toNat u.e=(s.set tos[i].toNat u).map SV.e:=fun u=>List.map_set.symm
  cases hr:s[tos[i].toNat].r with
  |false=>
   have:=step (s.set tos[i].toNat ⟨true,st,set⟩) (hs.set _ h1 h2);rw[<-hset]at this;exact this
  |true=>
   rw[aN,cond_true];cases decide (s[tos[i].toNat].st=st)with
   |false=>exact rfl
   |true=>
    rw[aN,cond_true];cases decide (s[tos[i].toNat].set &&& set=s[tos[i].toNat].set)with
    |true=>exact same
    |false=>
     have:=step (s.set tos[i].toNat ⟨true,s[tos[i].toNat].st,s[tos[i].toNat].set &&& set⟩) (hs.set _ hv.1 (M5 hv.2));rw[<-hset]at this;exact this
end
def ϋ {c t m x}(h:gY c t m x=true):1<=x.op/\x.op<=36:=by
 unfold gY at h;simp only[lγ,Bool.not_eq_true',bT,lζ]at h;omega
def lc {c t m x}(h:gY c t m x=true):(bif az x.op 1 then kj x.v&&!az x.v.k 0 else bif az x.op 2 then fT x.a m.locals.length else bif az x.op 3 then fT x.a m.locals.length else bif az x.op 4 then fT x.a t.fields.length else bif az x.op 5 then fT x.a t.fields.length else bif az x.op 26 then fT x.a 17 else bif az x.op 27 then fT x.a 17 else bif az x.op 28 then fT x.a m.code.length else bif az x.op 29 then fT x.a m.code.length else bif az x.op 30 then(fC c x.a x.b).isSome else true)=true:=by
 unfold gY at h;rw[lγ,lγ (az x.op 1||eZ x.v v0)]at h;exact h.2.2
def Jk {x:Int}{n:Nat}(h:fT x n=true):0<=x/\x<n:=by
 unfold fT at h;rw[lγ,bk,bT,lδ,lδ]at h;exact h
def jW {α:Type}{l:List α}{x:Int}(h:0<=x/\x<l.length):∃y,dK l x=some y/\y∈l:=by
 have:=EJ l x;have h2:fT x (l.length:Int)=true:=by unfold fT;rw[bk,bT,lκ h.1,lκ h.2];rfl
 rw[h2]at this;obtain⟨y,hy⟩:=Option.isSome_iff_exists.1 this.symm;refine⟨y,hy,?_⟩;unfold dK at hy;rw[if_pos h.1]at hy;exact mθ hy
def eqI_t {a b:Int}:az a b=true↔a=b:=by rw[bp,lδ]
def aa6 {c t m x}(top:Int)(h:gY c t m x=true):∃l,dh c t m x top=some l:=by
 have h1:=lc h;unfold dh;have b:∀{u:Bool} {x y:Option (List Ek)},(u=true->∃l,x=some l)->(u=false->∃l,y=some l)->∃l,(bif u then x else y)=some l:=fun {u} _ _ h1 h2=>match u,h1,h2 with
  |false,_,h2=>h2 rfl
  |true,h1,_=>h1 rfl
 have mp:∀{γ:Type} {l:List γ} {f:γ->List Ek},fT x.a l.length=true->∃r,(dK l x.a).map f=some r:=fun {γ l f} hw=>by
  obtain⟨y,hy,-⟩:=jW (Jk hw);rw[hy];exact⟨_,rfl⟩
 refine b (fun _=>⟨_,rfl⟩) fun _=>?_
 refine b (fun e=>by rw[eqI_t.1 e]at h1;exact mp h1) fun _=>?_
 refine b (fun e=>by rw[eqI_t.1 e]at h1;exact mp h1) fun _=>?_
 refine b (fun e=>by rw[eqI_t.1 e]at h1;exact mp h1) fun _=>?_
 refine b (fun e=>by rw[eqI_t.1 e]at h1;exact mp h1) fun _=>?_
 iterate 23 refine b (fun _=>⟨_,rfl⟩) fun _=>?_
 refine b (fun e=>?_) fun _=>?_
 ·rw[eqI_t.1 e]at h1;obtain⟨y,hy⟩:=Option.isSome_iff_exists.1 h1;rw[hy];exact⟨_,rfl⟩
 iterate 5 refine b (fun _=>⟨_,rfl⟩) fun _=>?_
 exact⟨_,rfl⟩
def aaW {c t m x}(st:LI)(h:gY c t m x=true):∃r,xF c t m x st=some r:=by
 unfold xF;obtain⟨l,hl⟩:=aa6 (dT st) h;rw[hl];cases st.isEmpty&&(az x.op 15||(az x.op 16||az x.op 31))
 ·exact⟨_,rfl⟩
 ·exact⟨_,rfl⟩
def CH {o:Int}{st st':LI}:∀{l:List Ek},zG o st l=(st',true)->st'.length<=40
 |[],h=>by cases h
 |e::r,h=>by
  unfold zG at h;revert h;by_cases h1:st.length<e.1.length
  ·rw[lκ h1];exact CH
  ·rw[mβ h1];by_cases h2:st.drop (st.length - e.1.length)=e.1
   ·rw[lκ h2];cases decide (0<st.length - e.1.length)&&(az o 32||az o 30)
    ·intro h;simp only[cond_true,cond_false,lτ,lδ]at h;rw[<-h.1,lε,mε];omega
    ·intro h;cases h
   ·rw[mβ h2];exact CH
def CI {c t m x}{st':LI}(h:xF c t m x st=some (st',true)):st'.length<=40:=by
 unfold xF at h;cases hb:st.isEmpty&&(az x.op 15||(az x.op 16||az x.op 31))with
 |true=>rw[hb]at h;cases h
 |false=>
  rw[hb,cond_false]at h;cases he:dh c t m x (dT st)with
  |none=>rw[he]at h;cases h
  |some l=>rw[he]at h;exact CH (Option.some.inj h)
def WF {c t m x pc}(h:gY c t m x=true)(hp:pc<m.code.length)(h2:(fo m pc x).2=true):(∀k∈(fo m pc x).1,0<=k/\k<m.code.length)/\(fo m pc x).1.length<=2:=by
 have h1:=lc h;unfold fo at h2 ⊢
 have b:∀{u:Bool} {x y:LI×Bool} {P:LI×Bool->Prop},(u=true->x.2=true->P x)->(u=false->y.2=true->P y)->(bif u then x else y).2=true->P (bif u then x else y):=fun {u} _ _ _ h1 h2 h=>match u,h1,h2,h with
  |false,_,h2,h=>h2 rfl h
  |true,h1,_,h=>h1 rfl h
 refine b (P:=fun z=>(∀k∈z.1,0<=k/\k<(m.code.length:Int))/\z.1.length<=2) (fun _ _=>by simp) (fun _=>?_) h2;refine b (P:=fun z=>(∀k∈z.1,0<=k/\k<(m.code.length:Int))/\z.1.length<=2) (fun _ _=>by simp) (fun _=>?_);refine b (P:=fun z=>(∀k∈z.1,0<=k/\k<(m.code.length:Int))/\z.1.length<=2) (fun e _=>?_) (fun _=>?_)
 ·rw[eqI_t.1 e]at h1;have:=Jk h1;refine⟨fun k hk=>?_,by simp⟩
  obtain rfl:=List.mem_singleton.1 hk;exact this
 refine b (P:=fun z=>(∀k∈z.1,0<=k/\k<(m.code.length:Int))/\z.1.length<=2) (fun _ h=>by cases h) (fun e4=>?_);rw[lζ]at e4;refine b (P:=fun z=>(∀k∈z.1,0<=k/\k<(m.code.length:Int))/\z.1.length<=2) (fun e _=>?_) (fun _ _=>?_)
 ·rw[eqI_t.1 e]at h1;have:=Jk h1;refine⟨fun k hk=>?_,by simp⟩
  simp only[mγ,List.not_mem_nil,or_false]at hk;rcases hk with rfl|rfl
  ·omega
  ·exact this
 ·refine⟨fun k hk=>?_,by simp⟩
  obtain rfl:=List.mem_singleton.1 hk;omega
def Ma {c t m x}{set:Nat}(h:gY c t m x=true)(hl:m.locals.length<=8)(hs:set<256):m9 x set<256:=by
 have h1:=lc h;unfold m9;cases e:az x.op 3 with
 |false=>exact hs
 |true=>
  rw[eqI_t.1 e]at h1;have:=Jk h1;have h2:x.a.toNat<8:=by omega
  have h3:2 ^ x.a.toNat<2 ^ 8:=Nat.pow_lt_pow_right (by omega) h2;exact Nat.or_lt_two_pow (x:=set) (y:=2 ^ x.a.toNat) (n:=8) (by omega) h3
def wz {me:Cm}{st:LI}{set:Nat}(h1:st.length<=40)(h2:set<256):∀{tos:LI} {s s':List SV} {w w':LN},m1 st set tos s w=some (s',w')->CC me s->(∀p∈w,p<me.code.length)->CC me s'/\w'.length+LK s'<=w.length+LK s/\w'.length<=w.length+tos.length/\∀p∈w',p<me.code.length
 |[],s,s',w,w',h,hs,hw=>by cases h;exact⟨hs,Nat.le_refl _,by simp,hw⟩
 |to::r,s,s',w,w',h,hs,hw=>by
  unfold m1 at h;cases hp:Ix st set to s w with
  |none=>rw[hp]at h;cases h
  |some p=>
   rw[hp]at h;obtain⟨q1,q2,q3,q4⟩:=ϥ (s':=p.1) (w':=p.2) hp hs h1 h2;obtain⟨r1,r2,r3,r4⟩:=wz h1 h2 h q1 fun x hx=>by
    rcases q4 x hx with h|h
    ·exact hw x h
    ·exact h.1
   exact⟨r1,by omega,by simp only[List.length_cons];omega,r4⟩
structure MT (c:List Ct)(t:Ct)(m:Cm):Prop where
 z:SzM m
 l:m.locals.length<=8
 p:m.params.length<=4
 pl:m.locals.take m.params.length=m.params
 n:0<m.code.length
 i:∀x∈m.code,gY c t m x=true
 q:∀x∈m.code,∀q,fC c x.a x.b=some q->q.params.length<1501
section
variable {m:Nat} (c:List Ct) (t:Ct) (me:Cm) (hf:MT c t me) (hm:2000<=m)
include hf hm
def ö {Er:R}{k0:_->R}{k1:_->R}{k2:_->R}{G:LD->R}(hk0:∀x,k0 x=Er)(hk1:∀x,k1 x=Er)(hk2:∀n s w,k2 (me.code.length,n,c4 c,t.r,me.r,s,w)=G s):∀(e q:Nat) (s:List SV) (w:LN) (wl:LD),CC me s->(∀p∈w,p<me.code.length)->wl.take w.length=w.reverse.map wE->w.length+LK s<=e->e<900000->e<q->
  itL (ef (cq lay0.tab m) m k0 k1 k2) q (me.code.length,w.length,c4 c,t.r,me.r,s.map SV.e,wl)=mO (qV c t me e s w) Er fun s'=>G (s'.map SV.e)
 |e,q+1,s,[],wl,hs,hp,hw,he,heb,hq=>by
  rw[aQ];have:qV c t me e s []=some s:=by cases e<;>rfl
  rw[this];simp only[ef,hk2,show aK 0 ((([]:LN).length:Nat):Int)=false from rfl,aX];rfl
 |0,q+1,s,pc::w,wl,hs,hp,hw,he,heb,hq=>by simp only[List.length_cons]at he;omega
 |e+1,q+1,s,pc::w,wl,hs,hp,hw,he,heb,hq=>by
  have hpc:pc<me.code.length:=hp pc lχ;have hpw:∀p∈w,p<me.code.length:=fun p h=>hp p (mα _ h)
  have hps:pc<s.length:=by rw[hs.n];exact hpc
  have hin:=hf.i _ (lμ hpc);have hv:=hs.v _ (lμ hps);have hcl:=hf.z.c;obtain⟨r,hr⟩:=aaW s[pc].st hin;simp only[List.length_cons]at he;obtain⟨tp1,tp2⟩:=ϴ hw;rw[aQ];have w1:ab .i64 (((pc::w).length:Int) - 1)=(w.length:Int):=by simp only[List.length_cons];rw[cV (by omega) (by omega)];omega
  have n0:aK 0 ((pc::w).length:Int)=true:=fp (by simp only[List.length_cons];omega);have n1:aV 0 (w.length:Int)=true:=by rw[bk];exact lκ (by omega)
  have n2:aK (w.length:Int) ((pc::w).length:Int)=true:=fp (by simp only[List.length_cons];omega);have n3:aV (w.length:Int) ((pc::w).length:Int)=true:=by rw[bk];exact lκ (by simp only[List.length_cons];omega)
  have g1:wl[0+w.length]?=some (wE pc):=by rw[Nat.zero_add];exact tp1
  have p0:aV 0 (pc:Int)=true:=by rw[bk];exact lκ (by omega)
  have g2:(s.map SV.e)[0+pc]?=some (s[pc].e):=by rw[Nat.zero_add,lσ,lη hps];rfl
  have ha:=ae (RF c t me me.code[pc] s[pc].st (by omega) (hf.q _ (lμ hpc)) hin hr (m:=m) (by omega));have hsu:=ae (Xh me pc hpc hcl (m:=m) (by omega));unfold qV;rw[lη hpc,lη hps];simp only[hr];simp only[ef,w1,n0,n1,n2,n3,aN,Int.toNat_natCast,g1,bw,show VF (wE pc)=false from rfl,aX,show ∀K,aJ .i64 (wE pc) K=K (pc:Int)from fun _=>rfl,show me.r.Code=me.code.map Cd.e from rfl,aU,be,bh hpc,W6,p0,fp (show(pc:Int)<(me.code.length:Int) by omega),g2,P_,hk0,hk1,Nat.sub_zero];refine(ha _).trans ?_;simp only[dB,aY,ba,mX,aL,aC];obtain⟨st',b⟩:=r;cases b with
  |false=>
   simp only[aX];refine(hsu _).trans ?_;simp only[dB,aY,ba,mX,aL,aC];cases(fo me pc me.code[pc]).2<;>rfl
  |true=>
   simp only[aN];refine(hsu _).trans ?_;simp only[dB,aY,ba,mX,aL,aC];cases h2:(fo me pc me.code[pc]).2 with
   |false=>rfl
   |true=>
    obtain⟨ht,htl⟩:=WF hin hpc h2;have hsl:=Ma hin hf.l hv.2;have hst:=CI hr;have run:=fun k1=>TZ c t me hcl (show 2000<=m from hm) (Er:=Er) (k0:=fun x=>Er) (k1:=k1) (fun _=>rfl) st' (m9 me.code[pc] s[pc].set) hst hsl (fo me pc me.code[pc]).1 ht (by omega) (fo me pc me.code[pc]).1.length m 0 s w wl hs tp2 (by omega) (by omega) (by omega)
    rw[aN,cond_true];have gu:itL (eg (cq lay0.tab m) m (fun x=>Er) (fun(n77,n78,l79,i80,l81,i82,i83,u84,u85,u86,l87,l88)=>itL (ef (cq lay0.tab m) m k0 k1 k2) q (n77,n78,u84,u85,u86,l87,l88))) m (me.code.length,w.length,st'.map iE,((m9 me.code[pc] s[pc].set:Nat):Int),(fo me pc me.code[pc]).1.map iE,((fo me pc me.code[pc]).1.length:Int),((0:Nat):Int),c4 c,t.r,me.r,s.map SV.e,wl)=mO ((m1 st' (m9 me.code[pc] s[pc].set) (fo me pc me.code[pc]).1 s w).bind fun p=>qV c t me e p.1 p.2) Er fun s'=>G (s'.map SV.e):=by
     have h:=run (fun(n77,n78,l79,i80,l81,i82,i83,u84,u85,u86,l87,l88)=>itL (ef (cq lay0.tab m) m k0 k1 k2) q (n77,n78,u84,u85,u86,l87,l88));rw[List.drop_zero]at h;cases hpr:m1 st' (m9 me.code[pc] s[pc].set) (fo me pc me.code[pc]).1 s w with
     |none=>rw[hpr]at h;exact h
     |some p=>
      rw[hpr]at h;obtain⟨wl',h3,h4⟩:=h;obtain⟨o1,o2,o3,o4⟩:=wz (s':=p.1) (w':=p.2) hst hsl hpr hs hpw;rw[h4];exact ö hk0 hk1 hk2 e q p.1 p.2 wl' o1 o4 h3 (by omega) (by omega) (by omega)
    have h1:=lc hin;have e3:az me.code[pc].r.Op 3=az me.code[pc].op 3:=rfl;rw[e3];unfold m9 at gu ⊢
    cases h3:az me.code[pc].op 3 with
    |false=>rw[h3]at gu;rw[aX,lα];exact gu
    |true=>
     rw[h3]at gu;rw[aN];rw[eqI_t.1 h3]at h1;have hw1:=Jk h1;have hlo:=hf.l;have e5:aK me.code[pc].r.A 0=false:=Ru (show ¬me.code[pc].a<0 by omega);rw[e5,aX];have e6:ab .u64 (1*2 ^ min (Int.toNat me.code[pc].r.A) (IntKind.bits .u64))=((2 ^ me.code[pc].a.toNat:Nat):Int):=abs (show me.code[pc].a.toNat<8 by omega);have e7:2 ^ me.code[pc].a.toNat<2 ^ 8:=Nat.pow_lt_pow_right (by omega) (show me.code[pc].a.toNat<8 by omega);simp only[e6,orU hv.2 (show 2 ^ me.code[pc].a.toNat<256 by omega),lα];exact gu
end
end
end
end Go.Ab
