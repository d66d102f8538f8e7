import Derived.Test.YtmnmeiibmgcddaaGreatDoorDcA
import Derived.Test.YtmnmeiibmgcddaaGreatDoorAl
import Derived.Test.YtmnmeiibmgcddaaGreatDoorOg0
import Derived.Laws.BitsLemmas
import Derived.KernelRfl
import Derived.Test.YtmnmeiibmgcddaaGreatDoorOg1
set_option linter.all false
namespace Go.Ab
open Go
set_option maxRecDepth 100000
noncomputable section
structure Va where
 (k n:Int)
 s:LN
 I:LI
 L:List LN
structure Fe where
 name:LN
 kind:Int
 init:Va
structure Cd where
 (op a b:Int)
 v:Va
structure Cm where
 name:LN
 params:LI
 res:Int
 locals:LI
 code:List Cd
structure Ct where
 name:LN
 fields:List Fe
 methods:List Cm
def iE (i:Int):Da:= .int .i64 i
def Va.c (v:Va):LD:=[.int .i64 v.k,.int .i64 v.n,.str v.s,.slice 1 (v.I.map iE),.slice 1 (v.L.map .str)]
def Va.r (v:Va):aw:=⟨v.k,v.n,v.s,v.I.map iE,v.L.map .str⟩
def Va.e (v:Va):Da:= .agg v.c
def Fe.r (f:Fe):cz:=⟨f.name,f.kind,f.init.k,f.init.n,f.init.s,f.init.I.map iE,f.init.L.map .str⟩
def Fe.e (f:Fe):Da:=f.r.e
def Cd.r (x:Cd):aq:=⟨x.op,x.a,x.b,x.v.k,x.v.n,x.v.s,x.v.I.map iE,x.v.L.map .str⟩
def Cd.e (x:Cd):Da:=x.r.e
def Cm.r (m:Cm):aj:=⟨m.name,m.params.map iE,m.res,m.locals.map iE,m.code.map Cd.e⟩
def Cm.e (m:Cm):Da:=m.r.e
def Ct.r (t:Ct):ah:=⟨t.name,t.fields.map Fe.e,t.methods.map Cm.e⟩
def Ct.e (t:Ct):Da:=t.r.e
def de (c:List Ct):av:=⟨c.map Ct.e⟩
def FT (v:Va)(K:aw->R):ao (.agg v.c) K=K v.r:=rfl
def OS (v:Va)(K:aw->R):ao v.e K=K v.r:=rfl
def YN (n:Fe)(K:cz->R):bE n.e K=K n.r:=rfl
def Vf (n:Cd)(K:aq->R):bu n.e K=K n.r:=rfl
def FQ (n:Cm)(K:aj->R):aN n.e K=K n.r:=rfl
def Cs (n:Ct)(K:ah->R):aF n.e K=K n.r:=rfl
def dI (i:Int)(K:Int->R):ba .i64 (iE i) K=K i:=rfl
def eH:Nat:=1000000000000
def wS {i:Nat}(h:i<eH):ag .i64 ((i:Int)+1)=((i+1:Nat):Int):=by
 unfold eH at h;rw[fO (by omega) (by omega)];omega
variable {a:Int}
def hZ {b:Int}(h:a<b):aG a b=true:=by rw[bX];simpa using h
def Q5 {b:Int}(h:¬a<b):aG a b=false:=by rw[bX];simpa using h
def eT (a:Int):aG a a=false:=Q5 (Int.lt_irrefl a)
def nR {α:Type}(kt:TypeDesc)(k:Da)(f:α->Da)(p:α->Bool)(h:∀x,ja kt k (f x)=some (p x)):∀(l:List α) (i:Nat),cr kt k (l.map f) i=some ((l.findIdx? p).map (i+ ·))
 |[],i=>rfl
 |x::r,i=>by
  simp only[List.map_cons,cr,h,qζ];cases p x
  ·simp only[nR kt k f p h r (i+1),Bool.false_eq_true,if_false,Option.map_map];congr 1;cases r.findIdx? p with
   |none=>rfl
   |some j=>simp only[Option.map_some,Function.comp];congr 1;omega
  ·rfl
def mO {β:Type}(o:Option β)(E:R)(K:β->R):R:=match o with|none=>E|some v=>K v
def agJ {β:Type}(v:β)(E:R)(K:β->R):mO (some v) E K=K v:=rfl
def CW (o:Option Nat):Int:=match o with|some j=>j|none=> -1
section
def kX {n b:Nat}(h:n<1000000001)(hb:b<=1000):c8 n b=true:=by
 unfold c8;rw[lγ,Nat.ble_eq,Nat.ble_eq];constructor
 ·calc (2*n+192)*b<=(2*1000000001+192)*1000:=Nat.mul_le_mul (by omega) hb
   _<=281474976710656:=by decide
 ·omega
def Q0 {α:Type}[DecidableEq α](p:α->α->Bool){xs ys:List α}(hl:xs.length=ys.length)(hp:∀x y,p x y=decide (x=y)):(xs.zip ys).findIdx? (fun t=>!p t.1 t.2)=none↔xs=ys:=by
 induction xs generalizing ys with
 |nil=>cases ys with
  |nil=>simp
  |cons y ys=>simp at hl
 |cons x xs ih=>cases ys with
  |nil=>simp at hl
  |cons y ys=>
   simp only[List.length_cons,Nat.add_right_cancel_iff]at hl;simp only[List.zip_cons_cons,qζ,hp,lχ];by_cases hxy:x=y
   ·simp only[hxy,decide_true,Bool.not_true,Bool.false_eq_true,if_false,true_and,Option.map_eq_none_iff];have:=ih hl;simp only[hp]at this;exact this
   ·simp[hxy]
def P1 (c:Int):Bool:=(aL 97 c&&aL c 122)||((aL 65 c&&aL c 90)||az c 95)
def W0 (c:Int):Bool:=aL 48 c&&aL c 57
def UQ (c:Int):Bool:=P1 c||W0 c
def XJ (s:LN):Bool:=[[97,99,116,111,114],[115,116,97,116,101],[109,101,116,104,111,100],[108,101,116],[105,102],[101,108,115,101],[119,104,105,108,101],[114,101,116,117,114,110],[102,97,105,108],[99,97,108,108],[101,109,105,116],[114,101,109,105,110,100],[99,97,110,99,101,108],[115,101,108,102],[116,114,117,101],[102,97,108,115,101],[105,110,116],[98,111,111,108],[115,116,114,105,110,103],[105,110,116,115],[115,116,114,105,110,103,115]].any fun t=>cg s t
def nV (a x y:Bool):iL a (some ((pB x),[])) (some ((pB y),[]))=some ((pB (bif a then x else y)),[]):=by cases a<;>rfl
def Oy (a:Bool):(bif a then true else false)=a:=by cases a<;>rfl
def Ð (a:Bool):(bif a then false else true)=!a:=by cases a<;>rfl
def OB (a b:Bool):(bif a then b else false)=(a&&b):=by cases a<;>rfl
def YI (a b:Bool):(bif a then true else b)=(a||b):=by cases a<;>rfl
def jY {α:Type}(l:List α)(p:α->Bool):(l.all fun x=>!p x)=(l.findIdx? p).isNone:=by
 rw[mζ,mε,Option.isNone_iff_eq_none,mτ];simp
def gL {α:Type}(l:List α)(p:α->Bool):l.all p=(l.findIdx? fun x=>!p x).isNone:=by
 rw[<-jY];simp
def y8 (s:LN)(K:LN->R):eR (Da.str s) K=K s:=rfl
def Ml {n:Nat}(c:Int):Ω (n+1) 199 [.p (.int .u8 c)] []=some (pB (W0 c),[]):=by
 apply Nb n c;simp only[A6,nV,Oy,OB,Bool.and_true,W0]
def wR {n:Nat}(c:Int):Ω (n+1) 255 [.p (.int .u8 c)] []=some (pB (P1 c),[]):=by
 apply JK n c;unfold w9 P1;cases aL 97 c<;>cases aL c 122<;>cases aL 65 c<;>cases aL c 90<;>cases az c 95<;>rfl
def Mm {n:Nat}(c:Int):Ω (n+2) 256 [.p (.int .u8 c)] []=some (pB (UQ c),[]):=by
 apply Nc (n+1) c;simp only[A7,aa (wR (n:=n) c),aa (Ml (n:=n) c),aY,aJ,aB,nV,Oy,YI,Bool.or_false,UQ]
def yC {n:Nat}(s:LN):Ω (n+1) 198 [pS s] []=some (pB (XJ s),[]):=by
 apply yP n s;simp only[oz,nV,Oy,YI,XJ,List.any_cons,List.any_nil,Bool.or_false]
def À (c:Nat):Bool:=!UQ (c:Int)
def X5 (s:LN):Nat:=(s.findIdx? À).getD s.length
def VQ {n:Nat}(s:LN)(h:s.length<1501):Ω (n+1504) 195 [pS s,.p (.fn 256 [])] []=some (pI (X5 s),[]):=by
 apply V4 (n+1503) s;unfold MJ X5;refine(bA s (fun q i=>itL (lJ _ (n+1503) _) q (s,i)) À (fun i=>some (pI i,[])) (some (pI s.length,[])) (fun q i hi=>?_) (fun q=>?_) (by omega)).trans ?_
 ·rw[bb];simp only[lJ,hZ (show((i:Int)<(s.length:Int)) by omega),be,bj,show(0:Int)<=(i:Int) by omega,decide_true,cond_true,Int.toNat_natCast,lε hi,bG,wS (show i<eH by unfold eH;omega),show ∀k:Nat,Int.ofNat k=(k:Int)from fun _=>rfl,aa (Mm (n:=n+1501) _),aY,aJ,bM];unfold À;cases UQ (s[i]:Int)<;>rfl
 ·rw[bb];simp only[lJ,eT,bo]
 ·cases s.findIdx? À<;>rfl
def QX (s:LN):Nat:=bif P1 ((s.headD 0:Nat):Int)then X5 s else 0
def Rj {n:Nat}(s:LN)(h:s.length<1501):Ω (n+1505) 197 [pS s] []=some (pI (QX s),[]):=by
 apply RE (n+1504) s;unfold Hs QX;cases s with
 |nil=>rfl
 |cons c r=>
  simp only[show cg (c::r) []=false from rfl,bo,show aL 0 0=true from rfl,cond_true,Int.toNat_zero,List.getElem?_cons_zero,bG,show ∀k:Nat,Int.ofNat k=(k:Int)from fun _=>rfl,aa (wR (n:=n+1503) _),aa (VQ (n:=n) _ h),aY,aJ,bW,aB,List.headD_cons];cases P1 (c:Int)<;>rfl
def pF (s:LN):Bool:=!cg s []&&(aL s.length 32&&(az (QX s) s.length&&!XJ s))
def qo {n:Nat}(s:LN):Ω (n+1506) 178 [pS s] []=some (pB (pF s),[]):=by
 apply JH (n+1505) s;by_cases h:s.length<1501
 ·simp only[qr,aa (Rj (n:=n) _ h),aa (yC (n:=n+1504) s),aY,aJ,bW,aB,nV,Ð,OB,pF]
 ·have:aL (s.length:Int) 32=false:=by rw[bj];simp only[lζ];omega
  simp only[qr,pF,this,bo,Bool.false_and,Bool.and_false];cases cg s []<;>rfl
def im (k:Int):Bool:=aL 1 k&&aL k 5
def qn {n:Nat}(k:Int):Ω (n+1) 183 [pI k] []=some (pB (im k),[]):=by
 apply JA n k;simp only[wW,nV,Oy,OB,im,Bool.and_true]
def MG {n:Nat}(xs ys:LI)(h:xs.length<1501\/ys.length<1501):Ω (n+1503) 88 [pL 1 (xs.map iE),pL 1 (ys.map iE)] []=some (pB (decide (xs=ys)),[]):=by
 apply NC (n+1502) (xs.map iE) (ys.map iE);unfold Bw;simp only[lβ,cE,pp];by_cases hl:(xs.length:Int)=ys.length
 ·rw[if_pos hl];have hl':xs.length=ys.length:=by omega
  refine(bA (xs.zip ys) (fun q i=>itL (iO _ (n+1502) _ _) q (xs.map iE,ys.map iE,(xs.length:Int),i)) (fun p=>!decide (p.1=p.2)) (fun i=>some (pB false,[])) (some (pB true,[])) (fun q i hi=>?_) (fun q=>?_) (by simp;omega)).trans ?_
  ·have hx:i<xs.length:=by simp at hi;omega
   have hy:i<ys.length:=by omega
   rw[bb];simp only[iO,hZ (show((i:Int)<(xs.length:Int)) by omega),be,aU,bf,bw hx,bw hy,bG,dI,wS (show i<eH by unfold eH;omega),List.getElem_zip,cE];exact mj _ _ _
  ·rw[bb];simp only[iO,show((xs.zip ys).length:Int)=xs.length by simp;omega,eT,bo]
  ·have:decide (xs=ys)=((xs.zip ys).all fun p=>!(!decide (p.1=p.2))):=by
    rw[mζ,mε,lδ];constructor
    ·rintro rfl p hp
     obtain⟨i,hi,rfl⟩:=qι hp;simp
    ·intro ha;refine List.ext_getElem hl' fun i h1 h2=>?_
     have:=ha (xs[i],ys[i]) (by rw[<-List.getElem_zip (h:=by simp;omega)];exact lρ _);simpa using this
   rw[this,jY];cases(xs.zip ys).findIdx? fun p=>!decide (p.1=p.2)<;>rfl
 ·rw[if_neg hl];rw[mθ (by rintro rfl;exact hl rfl)]
def MH {n:Nat}(xs ys:List LN)(h:xs.length<1501\/ys.length<1501):Ω (n+1503) 89 [pL 1 (xs.map .str),pL 1 (ys.map .str)] []=some (pB (decide (xs=ys)),[]):=by
 apply ND (n+1502) (xs.map .str) (ys.map .str);unfold By;simp only[lβ,cE,pp];by_cases hl:(xs.length:Int)=ys.length
 ·rw[if_pos hl];have hl':xs.length=ys.length:=by omega
  refine(bA (xs.zip ys) (fun q i=>itL (iP _ (n+1502) _ _) q (xs.map .str,ys.map .str,(xs.length:Int),i)) (fun p=>!decide (p.1=p.2)) (fun i=>some (pB false,[])) (some (pB true,[])) (fun q i hi=>?_) (fun q=>?_) (by simp;omega)).trans ?_
  ·have hx:i<xs.length:=by simp at hi;omega
   have hy:i<ys.length:=by omega
   rw[bb];simp only[iP,hZ (show((i:Int)<(xs.length:Int)) by omega),be,aU,bf,bw hx,bw hy,bG,y8,wS (show i<eH by unfold eH;omega),List.getElem_zip,ma];exact mj _ _ _
  ·rw[bb];simp only[iP,show((xs.zip ys).length:Int)=xs.length by simp;omega,eT,bo]
  ·have:decide (xs=ys)=((xs.zip ys).all fun p=>!(!decide (p.1=p.2))):=by
    rw[mζ,mε,lδ];constructor
    ·rintro rfl p hp
     obtain⟨i,hi,rfl⟩:=qι hp;simp
    ·intro ha;refine List.ext_getElem hl' fun i h1 h2=>?_
     have:=ha (xs[i],ys[i]) (by rw[<-List.getElem_zip (h:=by simp;omega)];exact lρ _);simpa using this
   rw[this,jY];cases(xs.zip ys).findIdx? fun p=>!decide (p.1=p.2)<;>rfl
 ·rw[if_neg hl];rw[mθ (by rintro rfl;exact hl rfl)]
def j3 {α:Type}(l:List α):Int:=(l.length:Int)
def xz (v:Va):Bool:=aG v.k 0||aG 5 v.k
def xA (v:Va):Bool:=!az v.n 0&&(!az v.k 1&&(!az v.k 2||!az v.n 1))
def HZ (v:Va):Bool:=(!cg v.s []&&!az v.k 3)||((aG 0 (j3 v.I)&&!az v.k 4)||(aG 0 (j3 v.L)&&!az v.k 5))
def t8 (v:Va):Bool:=aG 64 (j3 v.s)||(aG 16 (j3 v.I)||aG 16 (j3 v.L))
def ra (v:Va):Bool:=!xz v&&(!xA v&&(!HZ v&&(!t8 v&&v.L.all fun t=>!aG 64 (j3 t))))
def fd (a b:Va):Bool:=az a.k b.k&&(az a.n b.n&&(cg a.s b.s&&(decide (a.I=b.I)&&decide (a.L=b.L))))
def su {n:Nat}(a b:Va)(hi:a.I.length<1501\/b.I.length<1501)(hl:a.L.length<1501\/b.L.length<1501):Ω (n+1504) 48 [.p (.agg a.c),.p (.agg b.c)] []=some (pB (fd a b),[]):=by
 apply RL (n+1503) a.r b.r;unfold Hz;show iL (az a.k b.k) _ _=_;have h1:=aa (MG (n:=n) a.I b.I hi);have h2:=aa (MH (n:=n) a.L b.L hl);simp only[Va.r,h1,h2,aY,aJ,aB,nV,Oy,OB,fd,Bool.and_true]
section
variable (cc:ae) (n:Nat) (k0:Bool×aw->R) (v:Va)
def Ĝ:kL cc n k0 v.r=k0 (xz v,v.r):=by
 unfold kL xz;show iL (aG v.k 0) _ (iL (aG 5 v.k) _ _)=_;cases aG v.k 0<;>cases aG 5 v.k<;>rfl
def ĝ:kM cc n k0 v.r=k0 (xA v,v.r):=by
 unfold kM xA;show iL (!az v.n 0) (iL (!az v.k 1) (iL (!az v.k 2) _ (iL (!az v.n 1) _ _)) _) _=_;cases az v.n 0<;>cases az v.k 1<;>cases az v.k 2<;>cases az v.n 1<;>rfl
def Ğ:kO cc n k0 v.r=k0 (!cg v.s []&&!az v.k 3,v.r):=by
 unfold kO;show iL (!cg v.s []) (iL (!az v.k 3) _ _) _=_;cases cg v.s []<;>cases az v.k 3<;>rfl
def ğ:gq cc n k0 v.r=k0 (t8 v,v.r):=by
 unfold gq t8 j3;show iL (aG 64 (v.s.length:Int)) _ (iL (aG 16 ((v.I.map iE).length:Int)) _ (iL (aG 16 ((v.L.map Da.str).length:Int)) _ _))=_;simp only[lβ];cases aG 64 (v.s.length:Int)<;>cases aG 16 (v.I.length:Int)<;>cases aG 16 (v.L.length:Int)<;>rfl
def Ġ:kQ cc n k0 v.r=k0 (aG 0 (j3 v.I)&&!az v.k 4,v.r):=by
 unfold kQ j3;show iL (aG 0 ((v.I.map iE).length:Int)) (iL (!az v.k 4) _ _) _=_;simp only[lβ];cases aG 0 (v.I.length:Int)<;>cases az v.k 4<;>rfl
def ġ:kR cc n k0 v.r=k0 (aG 0 (j3 v.L)&&!az v.k 5,v.r):=by
 unfold kR j3;show iL (aG 0 ((v.L.map Da.str).length:Int)) (iL (!az v.k 5) _ _) _=_;simp only[lβ];cases aG 0 (v.L.length:Int)<;>cases az v.k 5<;>rfl
end
def tf {n:Nat}(v:Va):Ω (n+1503) 87 [.p (.agg v.c)] []=some (pB (ra v),[]):=by
 apply NB (n+1502) v.r;by_cases h:v.L.length<1501;case neg=>
  have h4:t8 v=true:=by
   unfold t8 j3;rw[qγ,qγ];exact .inr (.inr (hZ (by omega)))
  unfold abJ ra HZ;simp only[Ĝ,ĝ,Ğ,ğ,Ġ,ġ,h4];cases xz v<;>cases xA v<;>cases(!cg v.s []&&!az v.k 3)<;>cases(aG 0 (j3 v.I)&&!az v.k 4)<;>cases(aG 0 (j3 v.L)&&!az v.k 5)<;>rfl
 have hl:itL (cZ (dC lay0.tab (n+1502)) (n+1502) (some (pB false,[])) (fun(l18,i19,i20)=>some (pB true,[]))) (n+1502) (v.L.map .str,(v.L.length:Int),0)=some (pB (v.L.all fun t=>!aG 64 (j3 t)),[]):=by
  refine(bA v.L (fun q i=>itL (cZ _ (n+1502) _ _) q (v.L.map .str,(v.L.length:Int),i)) (fun t=>aG 64 (j3 t)) (fun i=>some (pB false,[])) (some (pB true,[])) (fun q i hi=>?_) (fun q=>?_) (by omega)).trans ?_
  ·rw[bb];simp only[cZ,hZ (show((i:Int)<(v.L.length:Int)) by omega),be,aU,bf,bw hi,bG,y8,wS (show i<eH by unfold eH;omega)];exact mj _ _ _
  ·rw[bb];simp only[cZ,eT,bo]
  ·rw[jY];cases v.L.findIdx? fun t=>aG 64 (j3 t)<;>rfl
 unfold abJ ra HZ;simp only[Ĝ,ĝ,Ğ,ğ,Ġ,ġ];show iL _ _ (iL _ _ (iL _ (iL _ _ (iL _ _ (itL (cZ _ _ _ _) _ (v.L.map .str,((v.L.map Da.str).length:Int),0)))) (iL _ (iL _ _ (iL _ _ (itL (cZ _ _ _ _) _ (v.L.map .str,((v.L.map Da.str).length:Int),0)))) (iL _ _ (iL _ _ (itL (cZ _ _ _ _) _ (v.L.map .str,((v.L.map Da.str).length:Int),0)))))))=_;rw[lβ,hl];cases xz v<;>cases xA v<;>cases(!cg v.s []&&!az v.k 3)<;>cases(aG 0 (j3 v.I)&&!az v.k 4)<;>cases(aG 0 (j3 v.L)&&!az v.k 5)<;>cases t8 v<;>rfl
end
section
variable {m:Nat}
def ei {c:Nat}(h:c+1<=m):∃k,m=k+1/\c<=k:=⟨m - 1,by omega,by omega⟩
def uz {c:Nat}(h:c<=m):∃k,m=k+c:=⟨m - c,by omega⟩
def v0:Va:=⟨0,0,[],[],[]⟩
def dX (b:Bool):R:=some (pB b,[])
def sI {α:Type}(p:α->Bool)(l:List α):aL 0 (CW (l.findIdx? p))=l.any p:=by
 cases h:l.findIdx? p with
 |none=>
  rw[show aL 0 (CW none)=false from rfl,eq_comm,qκ];intro x hx;simpa using mτ.1 h x hx
 |some j=>
  obtain⟨hj,h1,-⟩:=qη.1 h;rw[show aL 0 (CW (some j))=true by rw[bj];simp[CW],eq_comm,qν];exact⟨_,lρ hj,h1⟩
def Ys (o:Int):Bool:=(aL 2 o&&aL o 5)||(az o 26||(az o 27||(aL 28 o&&aL o 30)))
def Mi (o:Int)(hm:1<=m):Ω m 243 [pI o] []=dX (Ys o):=by
 obtain⟨m,rfl,-⟩:=ei hm;apply M8 m o;unfold A3 Ys;cases aL 2 o<;>cases aL o 5<;>cases az o 26<;>cases az o 27<;>cases aL 28 o<;>cases aL o 30<;>rfl
def fD (x n:Int):Bool:=aL 0 x&&aG x n
def wQ (x n:Int)(hm:1<=m):Ω m 244 [pI x,pI n] []=dX (fD x n):=by
 obtain⟨m,rfl,-⟩:=ei hm;apply JG m x n;unfold w7 fD;cases aL 0 x<;>cases aG x n<;>rfl
def fA (c:List Ct)(a b:Int):Option Cm:=(dj c a).bind fun t=>dj t.methods b
def Hk {α:Type}(l:List α)(i:Int):fD i (l.length:Int)=(dj l i).isSome:=by
 unfold fD dj;rw[bj,bX];by_cases h:0<=i
 ·simp only[h,decide_true,Bool.true_and,cond_true,if_true];by_cases h2:i<(l.length:Int)
  ·rw[lν h2,eq_comm,Option.isSome_iff_exists];exact⟨_,lε (by omega)⟩
  ·rw[mθ h2,lτ (by omega)];rfl
 ·simp[h]
def gX (c:List Ct)(t:Ct)(m:Cm)(x:Cd):Bool:=
 (!aG x.op 1&&(!aG 36 x.op&&(Ys x.op||az x.a 0)&&(az x.op 30||az x.b 0)))&&((az x.op 1||fd x.v v0)&&
  (bif az x.op 1 then ra x.v&&!az x.v.k 0 else bif az x.op 2 then fD x.a m.locals.length else bif az x.op 3 then fD x.a m.locals.length else bif az x.op 4 then fD x.a t.fields.length else bif az x.op 5 then fD x.a t.fields.length else bif az x.op 26 then fD x.a 17 else bif az x.op 27 then fD x.a 17 else bif az x.op 28 then fD x.a m.code.length else bif az x.op 29 then fD x.a m.code.length else bif az x.op 30 then(fA c x.a x.b).isSome else true))
def Z4 (a:Bool):iL a (some (pB true,[])) (some (pB false,[]))=dX a:=by cases a<;>rfl
def Zb (a:Bool):iL a (some (pB false,[])) (some (pB true,[]))=dX (!a):=by cases a<;>rfl
def ĕ (a x:Bool):iL a (some (pB false,[])) (dX x)=dX (!a&&x):=by cases a<;>rfl
def Ĕ (a x:Bool):iL a (dX x) (some (pB false,[]))=dX (a&&x):=by cases a<;>rfl
section
variable {m:Nat} (c:List Ct) (t:Ct) (me:Cm) (x:Cd)
def V0 {K}(hm:1<=m):jp (dC lay0.tab m) m K (de c,t.r,me.r,x.r)=K (!(!aG x.op 1&&(!aG 36 x.op&&(Ys x.op||az x.a 0)&&(az x.op 30||az x.b 0))),de c,t.r,me.r,x.r):=by
 unfold jp;simp only[Cd.r,aa (Mi (m:=m) x.op hm),aY,aJ,aB];cases aG x.op 1<;>cases aG 36 x.op<;>cases Ys x.op<;>cases az x.a 0<;>cases az x.op 30<;>cases az x.b 0<;>rfl
def V1 {K}(hm:1504<=m):jq (dC lay0.tab m) m K (de c,t.r,me.r,x.r)=K (!(az x.op 1||fd x.v v0),de c,t.r,me.r,x.r):=by
 unfold jq;obtain⟨k,rfl⟩:=uz hm;have h:=su (n:=k) x.v v0 (.inr (by decide)) (.inr (by decide));rw[show v0.c=[.int .i64 0,.int .i64 0,.str [],.slice 1 [],.slice 1 []]from rfl]at h
 simp only[Va.c]at h;simp only[Cd.r,aa h,aY,aJ,aB];cases az x.op 1<;>cases fd x.v v0<;>rfl
def V2 {K}(hm:1504<=m):jr (dC lay0.tab m) m K x.r=K (ra x.v&&!az x.v.k 0,x.r):=by
 unfold jr;obtain⟨k,rfl⟩:=uz hm;have h:=tf (n:=k+1) x.v;simp only[Va.c]at h;simp only[Cd.r,aa h,aY,aJ,aB];cases az x.v.k 0<;>cases ra x.v<;>rfl
def V3 {K}(hm:1<=m):jt (dC lay0.tab m) m K (de c,x.r)=K ((fA c x.a x.b).isSome,de c,x.r):=by
 unfold jt;simp only[Cd.r,de,lβ,aa (wQ (m:=m) _ _ hm),aY,aJ,aB,aU,bf,Cs,Ct.r];unfold fA;rw[Hk];cases h:dj c x.a with
 |none=>rfl
 |some t=>rw[Option.isSome_some,be,bG,Hk,Option.bind_some];cases(dj t.methods x.b).isSome<;>rfl
def Jd (hm:1506<=m):Ω m 187 [.p (de c).e,.p t.e,.p me.e,.p x.e] []=dX (gX c t me x):=by
 replace hm:=ei hm;obtain⟨m,rfl,hm⟩:=hm;apply JF m (de c) t.r me.r x.r;unfold w6 gX;rw[V0 c t me x (by omega)];simp only[V1 c t me x (m:=m) (by omega),V2 x (m:=m) (by omega),V3 c x (m:=m) (by omega)];simp only[Cd.r,Cm.r,Ct.r,lβ,aa (wQ (m:=m) _ _ (by omega)),aY,aJ,aB,Z4];cases(!aG x.op 1&&(!aG 36 x.op&&(Ys x.op||az x.a 0)&&(az x.op 30||az x.b 0)))
 ·rfl
 cases(az x.op 1||fd x.v v0)
 ·rfl
 cases az x.op 1<;>cases az x.op 2<;>cases az x.op 3<;>cases az x.op 4<;>cases az x.op 5<;>(try rfl)<;>cases az x.op 26<;>cases az x.op 27<;>(try rfl)<;>cases az x.op 28<;>cases az x.op 29<;>cases az x.op 30<;>rfl
def Mj (hm:1507<=m):Ω m 186 [.p x.e,.box 0 0,.box 1 0,.box 2 0] [.box [pL 3 (c.map Ct.e)],t.r.b,me.r.b]=some (pB (!gX c t me x),[.box [pL 3 (c.map Ct.e)],t.r.b,me.r.b]):=by
 replace hm:=ei hm;obtain⟨m,rfl,hm⟩:=hm;apply M9 m (c.map Ct.e) t.r me.r x.r;unfold A4;have h:=aa (Jd c t me x hm);change ∀k,dC lay0.tab m 187 [.p (.agg [.slice 3 (c.map Ct.e)]),.p (.agg [.str t.r.Name,.slice 7 t.r.Fields,.slice 5 t.r.Methods]),.p (.agg [.str me.r.Name,.slice 1 me.r.Params,.int .i64 me.r.Result,.slice 1 me.r.Locals,.slice 8 me.r.Code]),.p x.r.e] [] k=k _ _ at h;simp only[h,aY,aJ,aB];cases gX c t me x<;>rfl
def Mu (hl:me.code.length<1501)(hm:3010<=m)(q:List Cd)(hq:q.length<1501):Ω m 242 [pL 8 (q.map Cd.e),.fn 186 [.box 0 0,.box 1 0,.box 2 0]] [.box [pL 3 (c.map Ct.e)],t.r.b,me.r.b]=some (pI (CW (q.findIdx? fun x=>!gX c t me x)),[.box [pL 3 (c.map Ct.e)],t.r.b,me.r.b]):=by
 replace hm:=ei hm;obtain⟨m,rfl,hm⟩:=hm;apply Nk m (c.map Ct.e) t.r me.r (q.map Cd.e);unfold Bf;refine(bA q (fun k i=>itL (iM _ m _ _) k (q.map Cd.e,((q.map Cd.e).length:Int),i,de c,t.r,me.r)) (fun x=>!gX c t me x) (fun i=>some (pI i,[.box [pL 3 (c.map Ct.e)],t.r.b,me.r.b])) (some (pI (-1),[.box [pL 3 (c.map Ct.e)],t.r.b,me.r.b])) (fun k i hi=>?_) (fun k=>?_) (by omega)).trans ?_
 ·rw[bb];have h:=aa (Mj c t me q[i] (m:=m) (by omega));simp only[iM,lβ,hZ (show((i:Int)<(q.length:Int)) by omega),be,aU,bf,bw hi,bG,Vf,wS (show i<eH by unfold eH;omega)];refine(h _).trans ?_;simp only[aY,aJ];refine(bM _ _).trans ?_;exact mj _ _ _
 ·rw[bb];simp only[iM,lβ,eT,bo];rfl
 ·cases q.findIdx? fun x=>!gX c t me x<;>rfl
def Mq (hl:me.code.length<1501)(hm:3011<=m)(q:List Cd)(hq:q.length<1501):Ω m 185 [pL 8 (q.map Cd.e),.fn 186 [.box 0 0,.box 1 0,.box 2 0]] [.box [pL 3 (c.map Ct.e)],t.r.b,me.r.b]=some (pB (q.any fun x=>!gX c t me x),[.box [pL 3 (c.map Ct.e)],t.r.b,me.r.b]):=by
 replace hm:=ei hm;obtain⟨m,rfl,hm⟩:=hm;apply Nh m (c.map Ct.e) t.r me.r (q.map Cd.e);unfold Bb;refine(aa (Mu c t me hl hm q hq) _).trans ?_;simp only[aY,bW];refine(bM _ _).trans ?_;rw[sI];cases q.any _<;>rfl
end
def Jb (k:Int)(hm:2<=m):Ω m 241 [pI k] []=dX (!im k):=by
 obtain⟨m,rfl⟩:=uz hm;apply JB (m+1) k;unfold wX;rw[aa (qn (n:=m) k)];simp only[aY,aJ,aB,Zb];rfl
def Rk (l:LI)(hl:l.length<1501)(hm:1510<=m):Ω m 302 [pL 1 (l.map iE),.p (.fn 241 [])] []=some (pI (CW (l.findIdx? fun k=>!im k)),[]):=by
 replace hm:=ei hm;obtain⟨m,rfl,hm⟩:=hm;apply RF m (l.map iE);unfold Ht;refine(bA l (fun k i=>itL (jV _ m _ _) k (l.map iE,((l.map iE).length:Int),i)) (fun k=>!im k) (fun i=>some (pI i,[])) (some (pI (-1),[])) (fun k i hi=>?_) (fun k=>?_) (by omega)).trans ?_
 ·rw[bb];simp only[jV,lβ,hZ (show((i:Int)<(l.length:Int)) by omega),be,aU,bf,bw hi,bG,dI,wS (show i<eH by unfold eH;omega),aa (Jb (m:=m) _ (by omega)),aY,aJ,aB];exact mj _ _ _
 ·rw[bb];simp only[jV,lβ,eT,bo]
 ·cases l.findIdx? fun k=>!im k<;>rfl
def Mo (l:LI)(hl:l.length<1501)(hm:1511<=m):Ω m 240 [pL 1 (l.map iE),.p (.fn 241 [])] []=dX (l.any fun k=>!im k):=by
 replace hm:=ei hm;obtain⟨m,rfl,hm⟩:=hm;apply Ng m (l.map iE);unfold Ba;rw[aa (Rk l hl hm)];simp only[aY,bW];refine(bM _ _).trans ?_;rw[sI,Z4];rfl
def ta (l:LI)(hl:l.length<1501)(hm:1512<=m):Ω m 184 [pL 1 (l.map iE)] []=dX (l.all im):=by
 replace hm:=ei hm;obtain⟨m,rfl,hm⟩:=hm;apply Fo m (l.map iE);unfold tj;rw[aa (Mo l hl hm)];simp only[aY,aJ];refine(bM _ _).trans ?_;rw[Zb,List.all_eq_not_any_not];rfl
def ER (xs ys:LI)(h:xs.length<1501\/ys.length<1501)(hm:1504<=m):Ω m 110 [pL 1 (xs.map iE),pL 1 (ys.map iE)] []=dX (decide (xs=ys)):=by
 replace hm:=ei hm;obtain⟨m,rfl,hm⟩:=hm;apply V7 m (xs.map iE) (ys.map iE);unfold MM;simp only[lβ,cE,pp];by_cases hl:(xs.length:Int)=ys.length
 ·rw[if_pos hl];have hl':xs.length=ys.length:=by omega
  refine(bA (xs.zip ys) (fun q i=>itL (lL _ m _ _) q (xs.map iE,ys.map iE,(xs.length:Int),i)) (fun p=>!decide (p.1=p.2)) (fun i=>some (pB false,[])) (some (pB true,[])) (fun q i hi=>?_) (fun q=>?_) (by simp;omega)).trans ?_
  ·have hx:i<xs.length:=by simp at hi;omega
   have hy:i<ys.length:=by omega
   rw[bb];simp only[lL,hZ (show((i:Int)<(xs.length:Int)) by omega),be,aU,bf,bw hx,bw hy,bG,dI,wS (show i<eH by unfold eH;omega),List.getElem_zip,cE];exact mj _ _ _
  ·rw[bb];simp only[lL,show((xs.zip ys).length:Int)=xs.length by simp;omega,eT,bo]
  ·have:decide (xs=ys)=((xs.zip ys).findIdx? fun p=>!decide (p.1=p.2)).isNone:=by
    rw[mζ,lδ,Option.isNone_iff_eq_none];exact(Q0 (fun x y=>decide (x=y)) hl' fun _ _=>rfl).symm
   rw[this];cases(xs.zip ys).findIdx? fun p=>!decide (p.1=p.2)<;>rfl
 ·rw[if_neg hl];rw[mθ (by rintro rfl;exact hl rfl)]
structure Î (m:Cm):Prop where
 p:m.params.length<1501
 l:m.locals.length<1501
 c:m.code.length<1501
def uS (c:List Ct)(t:Ct)(m:Cm):Bool:=
 !aG 4 m.params.length&&(m.params.all im&&((az m.res 0||im m.res)&&(!aG 8 m.locals.length&&(m.locals.all im&&(!aG m.locals.length m.params.length&&(decide (m.locals.take m.params.length=m.params)&&(!az m.code.length 0&&m.code.all (gX c t m))))))))
def Rh (c:List Ct)(t:Ct)(me:Cm)(hz:Î me)(hm:3013<=m):Ω m 107 [.p (de c).e,.p t.e,.p me.e] []=dX (uS c t me):=by
 replace hm:=ei hm;obtain⟨m,rfl,hm⟩:=hm;apply RC m (de c) t.r me.r;unfold Hq uS;have h5:=aa (Mq c t me hz.c (m:=m) (by omega) me.code hz.c);change ∀k,dC lay0.tab m _ [pL 8 (me.code.map Cd.e),.fn _ _] [.box [pL 3 (c.map Ct.e)],.box [pS t.name,pL 7 (t.fields.map Fe.e),pL 5 (t.methods.map Cm.e)],.box [pS me.name,pL 1 (me.params.map iE),pI me.res,pL 1 (me.locals.map iE),pL 8 (me.code.map Cd.e)]] k=k _ [.box [pL 3 (c.map Ct.e)],.box [pS t.name,pL 7 (t.fields.map Fe.e),pL 5 (t.methods.map Cm.e)],.box [pS me.name,pL 1 (me.params.map iE),pI me.res,pL 1 (me.locals.map iE),pL 8 (me.code.map Cd.e)]]at h5;obtain⟨k,rfl⟩:∃k,m=k+1:=⟨m - 1,by omega⟩
 have h6:aL (me.params.length:Int) (me.locals.length:Int)=!aG (me.locals.length:Int) (me.params.length:Int):=by
  rw[bj,bX,<-decide_not];exact decide_eq_decide.2 (by omega)
 simp only[Cm.r,de,Ct.r,lβ,aa (ta me.params hz.p (m:=k+1) (by omega)),aa (ta me.locals hz.l (m:=k+1) (by omega)),aa (qn (n:=k) me.res),h5,Int.toNat_natCast,Nat.sub_zero,List.drop_zero,<-List.map_take,aa (ER (me.locals.take me.params.length) me.params (m:=k+1) (.inr hz.p) (by omega)),aY,aJ,aB,h6];simp only[bM,Zb,ĕ,Ĕ];rw[<-List.all_eq_not_any_not (p:=gX c t me)];cases aG 4 (me.params.length:Int);case true=>rfl
 cases me.params.all im;case false=>rfl
 cases az me.res 0<;>cases im me.res<;>cases aG 8 (me.locals.length:Int)<;>cases me.locals.all im<;>cases aG (me.locals.length:Int) (me.params.length:Int)<;>rfl
end
def lB (n:Int):Prop:= -9223372036854775808<=n/\n<=9223372036854775807
structure Wk (v:Va):Prop where
 n:lB v.n
 i:∀x∈v.I,lB x
 s:v.s.length<=64
 I:v.I.length<=16
 L:v.L.length<=16
 e:∀t∈v.L,t.length<=64
 k4:v.k=4->v.L=[]
 kn:v.k≠4->v.I=[]
 k3:v.k≠3->v.s=[]
def EK:lB 0:=by unfold lB;omega
def rp (v:Va)(k:Int):Bool:=az v.k k&&ra v
variable {m:Nat}
def yD (v:Va)(k:Int)(hm:1504<=m):Ω m 47 [.p v.e,pI k] []=some (pB (rp v k),[]):=by
 replace hm:=ei hm;obtain⟨m,rfl,hm⟩:=hm;apply RJ m v.r k;have e:=tf (n:=m - 1503) v;rw[show m - 1503+1503=m by omega]at e;unfold Hx rp;show iL (az v.k k) (dC lay0.tab m 87 [.p (.agg v.c)] [] _) _=_;rw[aa e];simp only[aY,aJ,aB,nV,OB]
def uw:List Va->LI->Bool
 |[],[]=>true
 |v::l,k::m=>rp v k&&uw l m
 |_,_=>false
def CM:∀(l:List Va) (m:LI),l.length=m.length->uw l m=(l.zip m).all fun p=>rp p.1 p.2
 |[],[],_=>rfl
 |v::l,k::m,h=>by
  simp only[uw,List.zip_cons_cons,List.all_cons,CM l m (by simpa using h)]
def CL:∀(l:List Va) (m:LI),l.length≠m.length->uw l m=false
 |[],[],h=>absurd rfl h
 |[],_::_,_=>rfl
 |_::_,[],_=>rfl
 |v::l,k::m,h=>by
  simp only[uw,CL l m (by simpa using h),Bool.and_false]
def J_ (l:List Va)(ks:LI)(hl:l.length<1501)(hm:1506<=m):Ω m 83 [pL 5 (l.map Va.e),pL 1 (ks.map iE),.p (.fn 47 [])] []=some (pB (uw l ks),[]):=by
 replace hm:=ei hm;obtain⟨m,rfl,hm⟩:=hm;apply K_ m (l.map Va.e) (ks.map iE);unfold x_;rw[lβ,lβ,cE,pp];by_cases h:(l.length:Int)=(ks.length:Int)
 ·have h':l.length=ks.length:=by omega
  rw[if_pos h,CM l ks h'];have hz:(l.zip ks).length=l.length:=by rw[qα];omega
  refine(bA (l.zip ks) (fun q i=>itL (Ť _ m _ _) q (ks.map iE,l.map Va.e,(l.length:Int),i)) (fun p=>!rp p.1 p.2) (fun _=>some (pB false,[])) (some (pB true,[])) (fun q i hi=>?_) (fun q=>?_) (by omega)).trans ?_
  ·rw[hz]at hi;rw[bb];simp only[Ť,hZ (show((i:Int)<(l.length:Int)) by omega),be,aU,bf,bw hi,bw (show i<ks.length by omega),bG,Va.e,FT,dI,wS (show i<eH by unfold eH;omega),List.getElem_zip];have e:=yD (m:=m) l[i] ks[i] (by omega);simp only[Va.e]at e;show dC lay0.tab m 47 [.p (.agg l[i].c),_] [] _=_;rw[aa e];simp only[aY,aJ,aB];cases rp l[i] ks[i]<;>rfl
  ·rw[bb,hz];simp only[Ť,eT,bo]
  ·rw[gL];cases(l.zip ks).findIdx? fun p=>!rp p.1 p.2<;>rfl
 ·rw[if_neg h,CL l ks (by omega)]
def k_ (l:List Va)(ks:LI)(hl:l.length<1501)(hm:1507<=m):Ω m 38 [pL 5 (l.map Va.e),pL 1 (ks.map iE)] []=some (pB (uw l ks),[]):=by
 replace hm:=ei hm;obtain⟨m,rfl,hm⟩:=hm;apply o_ m (l.map Va.e) (ks.map iE);unfold ϐ;rw[aa (J_ (m:=m) l ks hl hm)];simp only[aY,aJ,bM]
structure Ef where
 k:Int
 n:LN
 (a b:Int)
def Ef.e (x:Ef):Da:= .agg [.int .i64 x.k,.str x.n,.int .i64 x.a,.int .i64 x.b]
def ç (m:Nat)(l:LD):Ω (m+1) 84 [pL 5 l] []=dH 5 80 [.slice 5 l]:=by kernel_rfl
def å (m:Nat)(l:LD):Ω (m+1) 76 [pL 1 l] []=dH 1 8 [.slice 1 l]:=by kernel_rfl
def æ (m:Nat)(l:LD):Ω (m+1) 77 [pL 1 l] []=dH 1 16 [.slice 1 l]:=by kernel_rfl
def OJ {z b:Nat}{l:LD}(h:l.length<1501)(hb:b<=1000):dH z b [.slice z l]=some (.arr 0 0 l.length z,[.arr l]):=by
 have h1:(2*(0+l.length)+192)*b<=(2*(0+l.length)+192)*1000:=Nat.mul_le_mul_left _ hb;have:et l.length b=true:=by
  unfold et;rw[lγ,Nat.ble_eq,Nat.ble_eq];omega
 show(bif Nat.beq z z&&et l.length b then some (D.arr 0 0 l.length z,[Ob.arr l])else none)=_;rw[Nat.beq_refl,this];rfl
def Yt (l:LD)(h:l.length<1501)(hm:1<=m):Ω m 84 [pL 5 l] []=some (.arr 0 0 l.length 5,[.arr l]):=by
 replace hm:=ei hm;obtain⟨m,rfl,hm⟩:=hm;rw[ç,OJ h (by decide)]
def Ë (l:LD)(h:l.length<1501)(hm:1<=m):Ω m 76 [pL 1 l] []=some (.arr 0 0 l.length 1,[.arr l]):=by
 replace hm:=ei hm;obtain⟨m,rfl,hm⟩:=hm;rw[å,OJ h (by decide)]
def Ì (l:LD)(h:l.length<1501)(hm:1<=m):Ω m 77 [pL 1 l] []=some (.arr 0 0 l.length 1,[.arr l]):=by
 replace hm:=ei hm;obtain⟨m,rfl,hm⟩:=hm;rw[æ,OJ h (by decide)]
def eE (l:LD)(k:LD->R):cO (.arr l) k=k l:=rfl
def eC (i z n:Nat)(k:Nat->R):dF i z (.arr i 0 n z) k=k n:=by
 unfold dF;simp[iL]
def nM (x:List D)(K:List D->R):afe (.agg x) K=K x:=rfl
def Va.cl (v:Va):D:= .agg [pI v.k,pI v.n,pS v.s,.arr 0 0 v.I.length 1,.arr 1 0 v.L.length 1]
def Va.ch (v:Va):List Ob:=[.arr (v.I.map iE),.arr (v.L.map .str)]
structure Lg (v:Va):Prop where
 I:v.I.length<1501
 L:v.L.length<1501
def gQ (v:Va)(h:Lg v)(hm:2<=m):Ω m 55 [.p v.e] []=some (v.cl,v.ch):=by
 replace hm:=ei hm;obtain⟨m,rfl,hm⟩:=hm;apply Nq m v.r;unfold Bj;rw[aa (Ë (m:=m) v.r.I (by show(v.I.map iE).length<_;rw[lβ];exact h.I) (by omega)),eC];simp only[aR,eE,aB];rw[aa (Ì (m:=m) v.r.L (by show(v.L.map Da.str).length<_;rw[lβ];exact h.L) (by omega)),eC];simp only[aR,eE,aB,Va.r,lβ];rfl
def H8 {m:Nat}(l:List Va)(hl:l.length<1501)(hv:∀v∈l,Lg v)(hm:1503<=m)(k0:_->R){Z:R}(hk:∀a b c,k0 (l.length,a,b,c,l.map Va.e)=Z):∀(e q i:Nat),i+e=l.length->e<q->itL (gS (dC lay0.tab m) m k0) q (l.length,(l.length:Int),(i:Int),l.map Va.e)=Z
 |0,q+1,i,hi,_=>by
  obtain rfl:i=l.length:=by omega
  rw[bb];simp only[gS,eT,bo,hk]
 |e+1,q+1,i,hi,hq=>by
  have hil:i<l.length:=by omega
  have hg:(l.map Va.e)[0+(i:Int).toNat]?=some (Da.agg l[i].c):=by
   rw[Nat.zero_add,Int.toNat_natCast,lξ,lε hil];rfl
  have hs:∀d:Da,d=Da.agg l[i].c->(l.map Va.e).set (0+(i:Int).toNat) d=l.map Va.e:=by
   intro d hd;rw[Nat.zero_add,Int.toNat_natCast,hd];apply List.ext_getElem?;intro k;rw[List.getElem?_set];by_cases hk:i=k
   ·subst hk;rw[if_pos rfl,if_pos (by rw[lβ];exact hil),lξ,lε hil];rfl
   ·rw[if_neg hk]
  have ec:=aa (gQ (m:=m) l[i] (hv _ (lρ _)) (by omega));simp only[Va.e]at ec;rw[bb];have t1:Da.agg (splice (cells (Da.agg l[i].c)) 0 (cells (Da.agg [Da.int .i64 l[i].k,Da.int .i64 l[i].n,Da.str l[i].s,Da.slice 1 (List.take l[i].I.length (List.drop 0 (l[i].I.map iE))),Da.slice 1 (List.take l[i].L.length (List.drop 0 (l[i].L.map Da.str)))])))=Da.agg l[i].c:=by
   rw[List.drop_zero,List.drop_zero,lκ (by rw[lβ];omega),lκ (by rw[lβ];omega)];rfl
  simp only[gS,hZ (show((i:Int)<(l.length:Int)) by omega),be,bj,show(0:Int)<=(i:Int) by omega,decide_true,hg,bG,FT,show l[i].r.e=Da.agg l[i].c from rfl,ec,Va.cl,Va.ch,nM,aR,aY,bW,iU,eC,aB,eE];rw[hs _ t1,wS (show i<eH by unfold eH;omega)];exact H8 l hl hv hm k0 hk e q (i+1) (by omega) (by omega)
def qq (l:List Va)(hl:l.length<1501)(hv:∀v∈l,Lg v)(hm:1504<=m):Ω m 39 [pL 5 (l.map Va.e)] []=some (.arr 0 0 l.length 5,[.arr (l.map Va.e)]):=by
 replace hm:=ei hm;obtain⟨m,rfl,hm⟩:=hm;apply JR m (l.map Va.e);unfold xh;rw[aa (Yt (m:=m) (l.map Va.e) (by rw[lβ];exact hl) (by omega)),eC];simp only[aR,eE,aB,lβ];exact H8 l hl hv (by omega) _ (fun _ _ _=>rfl) l.length m 0 (by omega) (by omega)
section
def lw:Nat:=2000000
def Yr (l:List LN):Bool:=l.all fun t=>!aG 100 (t.length:Int)
def ZL (v:Va):Bool:=!aG 100 (v.s.length:Int)&&(!aG 40 (v.I.length:Int)&&(!aG 40 (v.L.length:Int)&&Yr v.L))
def uQ (l:List Va):Bool:=l.all ZL&&aL (l.length:Int) 20
section
variable {m:Nat} (hm:2000010<=m)
include hm
def ú (l:List Va)(i:Nat)(hi:i<l.length)(hL:l[i].L.length<lw){Er:R}(k1:_->R){Z:R}(hk:∀b,k1 (l.map Va.e,(i:Int),(l[i].L.length:Int),b)=Z):itL (fI (dC lay0.tab m) m Er k1) m (l.map Va.e,(i:Int),0)=bif Yr l[i].L then Z else Er:=by
 have hl:l[i].L.length<2000000:=hL;refine(bA l[i].L (fun q j=>itL (fI (dC lay0.tab m) m Er k1) q (l.map Va.e,(i:Int),j)) (fun t=>aG 100 (t.length:Int)) (fun _=>Er) Z (fun q j hj=>?_) (fun q=>?_) (by omega)).trans ?_
 ·rw[bb];simp only[fI,aU,bf,bw hi,bG,Va.e,FT,show l[i].r.L=l[i].L.map Da.str from rfl,lβ,hZ (show(j:Int)<(l[i].L.length:Int) by omega),be,bw hj,y8,wS (show j<eH by unfold eH;omega)];exact mj _ _ _
 ·rw[bb];simp only[fI,aU,bf,bw hi,bG,Va.e,FT,show l[i].r.L=l[i].L.map Da.str from rfl,lβ,eT,bo];exact hk _
 ·unfold Yr;rw[jY];cases l[i].L.findIdx? fun t=>aG 100 (t.length:Int)<;>rfl
def qp (l:List Va)(hl:l.length<lw)(hL:∀v∈l,v.L.length<lw):Ω (m+1) 11 [pL 5 (l.map Va.e)] []=some (pB (uQ l),[]):=by
 apply JL m (l.map Va.e);unfold xa;have hl':l.length<2000000:=hl;refine(bA l (fun q i=>itL (fH (dC lay0.tab m) m _ _) q (l.map Va.e,i)) (fun v=>!ZL v) (fun _=>some (pB false,[])) (some (pB (aL (l.length:Int) 20),[])) (fun q i hi=>?_) (fun q=>?_) (by omega)).trans ?_
 ·rw[bb];have h2:=fun(k1:_->R) Z hk=>ú hm l i hi (hL _ (lρ hi)) (Er:=some (pB false,[])) k1 (Z:=Z) hk
  simp only[fH,lβ,hZ (show(i:Int)<(l.length:Int) by omega),be,aU,bf,bw hi,bG,Va.e,FT];show iL (aG 100 (l[i].s.length:Int)) _ (iL (aG 40 ((l[i].I.map iE).length:Int)) _ (iL (aG 40 ((l[i].L.map Da.str).length:Int)) _ _))=_;rw[lβ,lβ,h2 _ (itL (fH (dC lay0.tab m) m (some (pB false,[])) (fun x=>some (pB (aL (↑(List.length x.1)) 20),[]))) q (l.map Va.e,((i+1:Nat):Int))) (fun b=>by simp only[wS (show i<eH by unfold eH;omega)])];unfold ZL;cases aG 100 (l[i].s.length:Int)<;>cases aG 40 (l[i].I.length:Int)<;>cases aG 40 (l[i].L.length:Int)<;>cases Yr l[i].L<;>rfl
 ·rw[bb];simp only[fH,lβ,eT,bo]
 ·unfold uQ;rw[gL];cases l.findIdx? fun v=>!ZL v<;>rfl
def vy (v:Va):Bool:=Yr v.L&&(aL (v.s.length:Int) 100&&(aL (v.I.length:Int) 40&&aL (v.L.length:Int) 40))
def Rl (v:Va)(hL:v.L.length<lw):Ω (m+1) 35 [.p v.e] []=dX (vy v):=by
 apply RG m v.r;unfold Hu;have hl:v.L.length<2000000:=hL;refine(bA v.L (fun q j=>itL (jW (dC lay0.tab m) m _ _) q (j,v.r)) (fun t=>aG 100 (t.length:Int)) (fun _=>dX false) (dX (aL (v.s.length:Int) 100&&(aL (v.I.length:Int) 40&&aL (v.L.length:Int) 40))) (fun q j hj=>?_) (fun q=>?_) (by omega)).trans ?_
 ·rw[bb];simp only[jW,show v.r.L=v.L.map Da.str from rfl,lβ,hZ (show(j:Int)<(v.L.length:Int) by omega),be,aU,bf,bw hj,bG,y8,wS (show j<eH by unfold eH;omega)];exact mj _ _ _
 ·rw[bb];simp only[jW,show v.r.L=v.L.map Da.str from rfl,show v.r.I=v.I.map iE from rfl,show v.r.S=v.s from rfl,lβ,eT,bo];cases aL (v.s.length:Int) 100<;>cases aL (v.I.length:Int) 40<;>cases aL (v.L.length:Int) 40<;>rfl
 ·unfold vy Yr;rw[jY];cases v.L.findIdx? fun t=>aG 100 (t.length:Int)<;>rfl
end
end
def qG:List LN->List LN->Bool
 |_,[]=>true
 |seen,s::r=>pF s&&(!(seen.any fun t=>decide (s=t))&&qG (seen++[s]) r)
def qQ (seen:List LN)(s:LN)(E:R)(K:Nat->R)(H:R)(hK:∀j,j<seen.length->K j=H):(cL (cr .string (.str s) (seen.map .str) 0) fun y=>od y E K)=bif seen.any fun t=>decide (s=t)then H else E:=by
 rw[nR .string (.str s) Da.str (fun t=>decide (s=t)) (fun x=>by simp only[ja,ma]) seen 0,bG];cases h:seen.findIdx? fun t=>decide (s=t)with
 |none=>
  rw[show(seen.any fun t=>decide (s=t))=false by
   rw[qκ];intro x hx;simpa using mτ.1 h x hx]
  rfl
 |some j=>
  obtain⟨hj,h1,-⟩:=qη.1 h;rw[show(seen.any fun t=>decide (s=t))=true by
   rw[qν];exact⟨_,lρ hj,h1⟩]
  show K (0+j)=H;rw[Nat.zero_add];exact hK j hj
variable {seen:List LN}
def qP {s:LN}(h:(seen.any fun t=>decide (s=t))=false):cr .string (.str s) (seen.map .str) 0=some none:=by
 rw[nR .string (.str s) Da.str (fun t=>decide (s=t)) (fun x=>by simp only[ja,ma]) seen 0];rw[qκ]at h;rw[mτ.2 fun x hx=>by simpa using h x hx];rfl
def sF (names:List LN)(L:Nat->Int->List LN->R)(rt rf:R)(hs:∀q i (h:i<names.length) seen,L (q+1) (i:Int) seen=bif pF names[i]&&!(seen.any fun t=>decide (names[i]=t))then L q ((i+1:Nat):Int) (seen++[names[i]])else rf)(he:∀q seen,L (q+1) (names.length:Int) seen=rt):
  ∀(d q i:Nat) (seen:List LN),i+d=names.length->d<q->L q (i:Int) seen=bif qG seen (names.drop i)then rt else rf
 |0,q+1,i,seen,h,_=>by
  obtain rfl:i=names.length:=by omega
  rw[List.drop_length];exact he q seen
 |d+1,q+1,i,seen,h,hq=>by
  have hi:i<names.length:=by omega
  rw[hs q i hi seen,sF names L rt rf hs he d q (i+1) _ (by omega) (by omega),mπ hi];rw[qG];cases pF names[i]<;>cases seen.any fun t=>decide (names[i]=t)<;>rfl
def rJ (seen:List LN):LD:=List.replicate seen.length (Da.bool true)
def vw {j:Nat}(h:j<seen.length):(rJ seen)[j]?=some (Da.bool true):=by
 unfold rJ;rw[List.getElem?_replicate,if_pos h]
def ż (seen:List LN)(s:LN):rJ seen++[Da.bool true]=rJ (seen++[s]):=by
 unfold rJ;rw[mη,List.length_singleton,List.replicate_succ']
def Yp (t:Ct):=t.name
def Zm (t:Fe):=t.name
def Zn (t:Cm):=t.name
def Mf (c:List Ct)(i:Nat)(h:i<c.length)(hm:1<=m):Ω m 103 [pI i,.box 0 0] [.box [pL 3 (c.map Ct.e)]]=some (pS (c[i].name),[.box [pL 3 (c.map Ct.e)]]):=by
 replace hm:=ei hm;obtain⟨m,rfl,hm⟩:=hm;apply M5 m (c.map Ct.e) i;unfold A0;rw[aU,bf,bw h,bG,Cs];rfl
def Mg (t:Ct)(i:Nat)(h:i<t.fields.length)(hm:1<=m):Ω m 179 [pI i,.box 0 0] [t.r.b]=some (pS (t.fields[i].name),[t.r.b]):=by
 replace hm:=ei hm;obtain⟨m,rfl,hm⟩:=hm;apply M6 m t.r i;unfold A1;show cL (bU (t.fields.map Fe.e) i) _=_;rw[aU,bf,bw h,bG,YN];rfl
def Mh (t:Ct)(i:Nat)(h:i<t.methods.length)(hm:1<=m):Ω m 180 [pI i,.box 0 0] [t.r.b]=some (pS (t.methods[i].name),[t.r.b]):=by
 replace hm:=ei hm;obtain⟨m,rfl,hm⟩:=hm;apply M7 m t.r i;unfold A2;show cL (bU (t.methods.map Cm.e) i) _=_;rw[aU,bf,bw h,bG,FQ];rfl
def L9 (c:List Ct)(hc:c.length<1501)(hm:1510<=m):Ω m 102 [pI (c.length:Int),.fn 103 [.box 0 0]] [.box [pL 3 (c.map Ct.e)]]=some (pB (qG [] (c.map Yp)),[.box [pL 3 (c.map Ct.e)]]):=by
 replace hm:=ei hm;obtain⟨m,rfl,hm⟩:=hm;apply M0 m (c.map Ct.e) c.length;unfold AV;refine(sF (c.map Yp) (fun q i seen=>itL (iH (dC lay0.tab m) m _ _) q ((c.length:Int),i,de c,seen.map .str,rJ seen)) (some (pB true,[.box [pL 3 (c.map Ct.e)]])) (some (pB false,[.box [pL 3 (c.map Ct.e)]])) (fun q i hi seen=>?_) (fun q seen=>?_) _ m 0 [] (Nat.zero_add _) (by rw[lβ];omega)).trans ?_
 ·rw[lβ]at hi;rw[bb];have h1:=aa (Mf c i hi (m:=m) (by omega));have h2:=aa (qo (n:=m - 1506) (c[i].name));rw[show m - 1506+1506=m by omega]at h2;simp only[iH,hZ (show((i:Int)<(c.length:Int)) by omega),be];refine(h1 _).trans ?_;simp only[aY,iU];refine(bM _ _).trans ?_;simp only[h2,aY,aJ,aB,wS (show i<eH by unfold eH;omega)];rw[qQ seen (c[i].name) _ _ _ fun j hj=>by simp only[vw hj,bG,aJ,be];rfl];rw[show(c.map Yp)[i]'(by rw[lβ];exact hi)=c[i].name from List.getElem_map ..];cases pF (c[i].name)
  ·rfl
  cases h3:seen.any fun s=>decide (c[i].name=s)
  ·rw[ż seen (c[i].name)];simp only[qP h3,bG,GH,be,cond_false,Bool.not_false,Bool.and_self,cond_true,List.map_append];rfl
  ·rfl
 ·rw[bb,lβ];simp only[iH,eT,bo];rfl
 ·rw[List.drop_zero];cases qG [] (c.map Yp)<;>rfl
def Ma (t:Ct)(hc:t.fields.length<1501)(hm:1510<=m):Ω m 102 [pI (t.fields.length:Int),.fn 179 [.box 0 0]] [t.r.b]=some (pB (qG [] (t.fields.map Zm)),[t.r.b]):=by
 replace hm:=ei hm;obtain⟨m,rfl,hm⟩:=hm;apply M1 m t.r t.fields.length;unfold AW;refine(sF (t.fields.map Zm) (fun q i seen=>itL (iI (dC lay0.tab m) m _ _) q ((t.fields.length:Int),i,t.r,seen.map .str,rJ seen)) (some (pB true,[t.r.b])) (some (pB false,[t.r.b])) (fun q i hi seen=>?_) (fun q seen=>?_) _ m 0 [] (Nat.zero_add _) (by rw[lβ];omega)).trans ?_
 ·rw[lβ]at hi;rw[bb];have h1:=aa (Mg t i hi (m:=m) (by omega));have h2:=aa (qo (n:=m - 1506) (t.fields[i].name));rw[show m - 1506+1506=m by omega]at h2;simp only[iI,hZ (show((i:Int)<(t.fields.length:Int)) by omega),be];refine(h1 _).trans ?_;simp only[aY,iU];refine(bM _ _).trans ?_;simp only[h2,aY,aJ,aB,wS (show i<eH by unfold eH;omega)];rw[qQ seen (t.fields[i].name) _ _ _ fun j hj=>by simp only[vw hj,bG,aJ,be];rfl];rw[show(t.fields.map Zm)[i]'(by rw[lβ];exact hi)=t.fields[i].name from List.getElem_map ..];cases pF (t.fields[i].name)
  ·rfl
  cases h3:seen.any fun s=>decide (t.fields[i].name=s)
  ·rw[ż seen (t.fields[i].name)];simp only[qP h3,bG,GH,be,cond_false,Bool.not_false,Bool.and_self,cond_true,List.map_append];rfl
  ·rfl
 ·rw[bb,lβ];simp only[iI,eT,bo];rfl
 ·rw[List.drop_zero];cases qG [] (t.fields.map Zm)<;>rfl
def Mb (t:Ct)(hc:t.methods.length<1501)(hm:1510<=m):Ω m 102 [pI (t.methods.length:Int),.fn 180 [.box 0 0]] [t.r.b]=some (pB (qG [] (t.methods.map Zn)),[t.r.b]):=by
 replace hm:=ei hm;obtain⟨m,rfl,hm⟩:=hm;apply M2 m t.r t.methods.length;unfold AX;refine(sF (t.methods.map Zn) (fun q i seen=>itL (iJ (dC lay0.tab m) m _ _) q ((t.methods.length:Int),i,t.r,seen.map .str,rJ seen)) (some (pB true,[t.r.b])) (some (pB false,[t.r.b])) (fun q i hi seen=>?_) (fun q seen=>?_) _ m 0 [] (Nat.zero_add _) (by rw[lβ];omega)).trans ?_
 ·rw[lβ]at hi;rw[bb];have h1:=aa (Mh t i hi (m:=m) (by omega));have h2:=aa (qo (n:=m - 1506) (t.methods[i].name));rw[show m - 1506+1506=m by omega]at h2;simp only[iJ,hZ (show((i:Int)<(t.methods.length:Int)) by omega),be];refine(h1 _).trans ?_;simp only[aY,iU];refine(bM _ _).trans ?_;simp only[h2,aY,aJ,aB,wS (show i<eH by unfold eH;omega)];rw[qQ seen (t.methods[i].name) _ _ _ fun j hj=>by simp only[vw hj,bG,aJ,be];rfl];rw[show(t.methods.map Zn)[i]'(by rw[lβ];exact hi)=t.methods[i].name from List.getElem_map ..];cases pF (t.methods[i].name)
  ·rfl
  cases h3:seen.any fun s=>decide (t.methods[i].name=s)
  ·rw[ż seen (t.methods[i].name)];simp only[qP h3,bG,GH,be,cond_false,Bool.not_false,Bool.and_self,cond_true,List.map_append];rfl
  ·rfl
 ·rw[bb,lβ];simp only[iJ,eT,bo];rfl
 ·rw[List.drop_zero];cases qG [] (t.methods.map Zn)<;>rfl
def CO (f:Fe):Bool:=im f.kind&&(az f.init.k f.kind&&ra f.init)
def Mk (f:Fe)(hm:1504<=m):Ω m 182 [.p f.e] []=dX (!CO f):=by
 obtain⟨k,rfl⟩:=uz hm;apply Na (k+1503) f.r;unfold A5 CO;have h:=aa (tf (n:=k) f.init);simp only[Va.c]at h;simp only[Fe.r,aa (qn (n:=k+1502) f.kind),h,aY,aJ,aB];cases im f.kind<;>cases az f.init.k f.kind<;>cases ra f.init<;>rfl
def Mt (q:List Fe)(hl:q.length<1501)(hm:1510<=m):Ω m 239 [pL 7 (q.map Fe.e),.p (.fn 182 [])] []=some (pI (CW (q.findIdx? fun f=>!CO f)),[]):=by
 replace hm:=ei hm;obtain⟨m,rfl,hm⟩:=hm;apply Nj m (q.map Fe.e);unfold Be;refine(bA q (fun k i=>itL (iK _ m _ _) k (q.map Fe.e,((q.map Fe.e).length:Int),i)) (fun f=>!CO f) (fun i=>some (pI i,[])) (some (pI (-1),[])) (fun k i hi=>?_) (fun k=>?_) (by omega)).trans ?_
 ·rw[bb];have h:=aa (Mk q[i] (m:=m) (by omega));simp only[iK,lβ,hZ (show((i:Int)<(q.length:Int)) by omega),be,aU,bf,bw hi,bG,YN,wS (show i<eH by unfold eH;omega)];refine(h _).trans ?_;simp only[aY,aJ,aB];exact mj _ _ _
 ·rw[bb];simp only[iK,lβ,eT,bo]
 ·cases q.findIdx? fun f=>!CO f<;>rfl
def Mn (q:List Fe)(hl:q.length<1501)(hm:1511<=m):Ω m 181 [pL 7 (q.map Fe.e),.p (.fn 182 [])] []=dX (q.any fun f=>!CO f):=by
 replace hm:=ei hm;obtain⟨m,rfl,hm⟩:=hm;apply Nf m (q.map Fe.e);unfold A9;rw[aa (Mt q hl hm)];simp only[aY,bW];refine(bM _ _).trans ?_;rw[sI,Z4];rfl
structure Yy (t:Ct):Prop where
 f:t.fields.length<1501
 m:t.methods.length<1501
 s:∀m∈t.methods,Î m
structure AJ (c:List Ct):Prop where
 n:c.length<1501
 s:∀t∈c,Yy t
def vT (t:Ct):Bool:=!aG 8 t.fields.length&&(!aG 16 t.methods.length&&(qG [] (t.fields.map Zm)&&(qG [] (t.methods.map Zn)&&t.fields.all CO)))
def Ri (t:Ct)(hz:Yy t)(hm:1512<=m):Ω m 106 [.p t.e] []=dX (vT t):=by
 replace hm:=ei hm;obtain⟨m,rfl,hm⟩:=hm;apply RD m t.r;unfold Hr vT;have h1:=aa (Ma t hz.f (m:=m) (by omega));have h2:=aa (Mb t hz.m (m:=m) (by omega));have h3:=aa (Mn t.fields hz.f (m:=m) (by omega));change ∀k,dC lay0.tab m _ [_,_] [.box [pS t.name,pL 7 (t.fields.map Fe.e),pL 5 (t.methods.map Cm.e)]] k=k _ [.box [pS t.name,pL 7 (t.fields.map Fe.e),pL 5 (t.methods.map Cm.e)]]at h1;change ∀k,dC lay0.tab m _ [_,_] [.box [pS t.name,pL 7 (t.fields.map Fe.e),pL 5 (t.methods.map Cm.e)]] k=k _ [.box [pS t.name,pL 7 (t.fields.map Fe.e),pL 5 (t.methods.map Cm.e)]]at h2;simp only[Ct.r,lβ,h1,h2,h3,aY,aJ,bM,Zb,ĕ,Ĕ];rw[<-List.all_eq_not_any_not (p:=CO)];rfl
def Me (t:Ct)(hz:Yy t)(hm:1513<=m):Ω m 105 [.p t.e] []=dX (!vT t):=by
 replace hm:=ei hm;obtain⟨m,rfl,hm⟩:=hm;apply M4 m t.r;unfold AZ;refine(aa (Ri t hz hm) _).trans ?_;simp only[aY,aJ,aB,Zb];rfl
def Mw (q:List Ct)(hz:AJ q)(hm:1520<=m):Ω m 139 [pL 3 (q.map Ct.e),.p (.fn 105 [])] []=some (pI (CW (q.findIdx? fun f=>!vT f)),[]):=by
 replace hm:=ei hm;obtain⟨m,rfl,hm⟩:=hm;apply Nm m (q.map Ct.e);unfold Bg;have hl:=hz.n;refine(bA q (fun k i=>itL (iN _ m _ _) k (q.map Ct.e,((q.map Ct.e).length:Int),i)) (fun f=>!vT f) (fun i=>some (pI i,[])) (some (pI (-1),[])) (fun k i hi=>?_) (fun k=>?_) (by omega)).trans ?_
 ·rw[bb];have h:=aa (Me q[i] (hz.s _ (lρ hi)) (m:=m) (by omega));simp only[iN,lβ,hZ (show((i:Int)<(q.length:Int)) by omega),be,aU,bf,bw hi,bG,Cs,wS (show i<eH by unfold eH;omega)];refine(h _).trans ?_;simp only[aY,aJ,aB];exact mj _ _ _
 ·rw[bb];simp only[iN,lβ,eT,bo]
 ·cases q.findIdx? fun f=>!vT f<;>rfl
def Mr (q:List Ct)(hz:AJ q)(hm:1521<=m):Ω m 104 [pL 3 (q.map Ct.e),.p (.fn 105 [])] []=dX (q.any fun f=>!vT f):=by
 replace hm:=ei hm;obtain⟨m,rfl,hm⟩:=hm;apply Ni m (q.map Ct.e);unfold Bd;rw[aa (Mw q hz hm)];simp only[aY,bW];refine(bM _ _).trans ?_;rw[sI,Z4];rfl
def wL (c:List Ct)(t:Ct):Nat->List Cm->Option Nat
 |a,[]=>some a
 |a,x::r=>bif aG 3000 (a+x.code.length:Nat)then none else bif uS c t x then wL c t (a+x.code.length) r else none
def Hf (c:List Ct):Nat->List Ct->Option Nat
 |a,[]=>some a
 |a,t::r=>(wL c t a t.methods).bind fun a=>Hf c a r
def CP (c:List Ct):Bool:=!aG 8 c.length&&(qG [] (c.map Yp)&&(c.all vT&&(Hf c 0 c).isSome))
def I6 {c t}:∀(l:List Cm) {a b:Nat},wL c t a l=some b->a<=3000->b<=3000
 |[],a,b,h,ha=>by cases h;exact ha
 |x::r,a,b,h,ha=>by
  unfold wL at h;revert h;cases h1:aG 3000 (a+x.code.length:Nat)with
  |true=>intro h;cases h
  |false=>
   rw[bX,lζ]at h1;cases uS c t x with
   |false=>intro h;cases h
   |true=>exact fun h=>I6 r h (by omega)
def mF {α:Type}(o:Option α)(E:R)(K:α->R):R:=match o with|none=>E|some a=>K a
def VJ {m:Nat}(c:List Ct)(t:Ct)(l1:LD)(i2 i3:Int)(ht:Yy t)(hm:3020<=m)(k1:_->R):∀(d q i:Nat) (a:Nat),a<=3000->i+d=t.methods.length->d<q->itL (jU (dC lay0.tab m) m (fun _=>dX false) k1) q ((a:Int),l1,i2,i3,t.methods.map Cm.e,(t.methods.length:Int),(i:Int),de c,t.r)=mF (wL c t a (t.methods.drop i)) (dX false) fun b=>k1 ((b:Int),l1,i2,i3,t.methods.map Cm.e,(t.methods.length:Int),(t.methods.length:Int),de c,t.r)
 |0,q+1,i,a,ha,h,_=>by
  obtain rfl:i=t.methods.length:=by omega
  rw[bb,List.drop_length];simp only[jU,eT,bo];rfl
 |d+1,q+1,i,a,ha,h,hq=>by
  have hi:i<t.methods.length:=by omega
  have hz:=ht.s _ (lρ hi);have hzc:=hz.c;rw[bb,mπ hi];simp only[jU,hZ (show((i:Int)<(t.methods.length:Int)) by omega),be,aU,bf,bw hi,bG,FQ,wS (show i<eH by unfold eH;have:=ht.m;omega)];have h1:ag .i64 ((a:Int)+((t.methods[i].r.Code).length:Int))=((a+t.methods[i].code.length:Nat):Int):=by
   rw[show(t.methods[i].r.Code).length=t.methods[i].code.length from lβ ..];rw[fO (by omega) (by omega)];omega
  rw[h1];unfold wL;cases h2:aG 3000 ((a+t.methods[i].code.length:Nat):Int)with
  |true=>rfl
  |false=>
   rw[bo,cond_false];refine(aa (Rh c t t.methods[i] hz (m:=m) (by omega)) _).trans ?_;simp only[aY,aJ,aB];cases uS c t t.methods[i]with
   |false=>rfl
   |true=>
    rw[be,cond_true];rw[bX,lζ]at h2;exact VJ c t l1 i2 i3 ht hm k1 d q (i+1) (a+t.methods[i].code.length) (by omega) (by omega) (by omega)
def VI {m:Nat}(c:List Ct)(hc:AJ c)(hm:3020<=m)(k1:_->R):∀(d q i:Nat) (a:Nat),a<=3000->i+d=c.length->d<q->itL (gp (dC lay0.tab m) m (fun _=>dX false) k1) q ((a:Int),c.map Ct.e,(c.length:Int),(i:Int),de c)=mF (Hf c a (c.drop i)) (dX false) fun b=>k1 ((b:Int),c.map Ct.e,(c.length:Int),(c.length:Int),de c)
 |0,q+1,i,a,ha,h,_=>by
  obtain rfl:i=c.length:=by omega
  rw[bb,List.drop_length];simp only[gp,eT,bo];rfl
 |d+1,q+1,i,a,ha,h,hq=>by
  have hi:i<c.length:=by omega
  have hz:=hc.s _ (lρ hi);have:=hc.n;have:=hz.m;rw[bb,mπ hi];simp only[gp,hZ (show((i:Int)<(c.length:Int)) by omega),be,aU,bf,bw hi,bG,Cs];rw[show(c[i].r.Methods).length=c[i].methods.length from lβ ..];refine(VJ c c[i] _ _ _ hz hm _ c[i].methods.length m 0 a ha (by omega) (by omega)).trans ?_;rw[List.drop_zero];unfold Hf;cases h2:wL c c[i] a c[i].methods with
  |none=>rfl
  |some b=>
   simp only[mF,Option.bind_some,wS (show i<eH by unfold eH;omega)];exact VI c hc hm k1 d q (i+1) b (I6 _ h2 ha) (by omega) (by omega)
def Rf (c:List Ct)(hc:AJ c)(hm:3021<=m):Ω m 63 [.p (de c).e] []=dX (CP c):=by
 replace hm:=ei hm;obtain⟨m,rfl,hm⟩:=hm;apply RA m (de c);unfold Ho CP;have hn:=hc.n;have h1:=aa (L9 c hc.n (m:=m) (by omega));have h2:=aa (Mr c hc (m:=m) (by omega));have h3:=VI c hc hm (fun _=>dX true) c.length m 0 0 (by omega) (by omega) (by omega);simp only[de,lβ,h1,h2,aY,aJ,bM];change itL (gp _ _ _ _) _ (0,c.map Ct.e,(c.length:Int),0,av.mk (c.map Ct.e))=_ at h3;show iL _ _ (iL _ (iL _ _ (itL (gp _ _ (fun _=>dX false) (fun _=>dX true)) _ (0,c.map Ct.e,(c.length:Int),0,av.mk (c.map Ct.e)))) _)=_;rw[h3,List.drop_zero,<-Bool.not_not (c.any fun f=>!vT f),<-List.all_eq_not_any_not (p:=vT)];cases aG 8 (c.length:Int)<;>cases qG [] (c.map Yp)<;>cases c.all vT<;>cases Hf c 0 c<;>rfl
section
def KH (f:Fe):Bool:=!aG 100 (f.name.length:Int)&&vy f.init
def Gq (m:Cm):Bool:=!aG 100 (m.name.length:Int)&&(!aG 20 (m.params.length:Int)&&(!aG 40 (m.locals.length:Int)&&(!aG 120 (m.code.length:Int)&&m.code.all fun y=>vy y.v)))
def Kq (t:Ct):Bool:=!aG 100 (t.name.length:Int)&&(!aG 20 (t.fields.length:Int)&&(!aG 20 (t.methods.length:Int)&&(t.fields.all KH&&t.methods.all Gq)))
def vz (c:List Ct):Bool:=!aG 20 (c.length:Int)&&c.all Kq
structure Bt (t:Ct):Prop where
 f:t.fields.length<lw
 m:t.methods.length<lw
 fv:∀f∈t.fields,f.init.L.length<lw
 mc:∀m∈t.methods,m.code.length<lw/\∀y∈m.code,y.v.L.length<lw
structure Bc (c:List Ct):Prop where
 n:c.length<lw
 t:∀t∈c,Bt t
section
variable {m:Nat} (hm:2000020<=m)
include hm
def VF (v:Va)(hL:v.L.length<lw):Ω m 35 [.p (.agg v.c)] []=dX (vy v):=by
 obtain⟨k,rfl,hk⟩:=ei (show 2000019+1<=m from hm);exact Rl (m:=k) (by omega) v hL
variable {Er:R}
def ą (c:List Ct)(t:Ct)(ht:Bt t)(i:Nat)(k0 k1:_->R)(h0:∀x,k0 x=Er):itL (gm (dC lay0.tab m) m k0 k1) m ((i:Int),0,de c,t.r)=bif t.fields.all KH then k1 ((i:Int),(t.fields.length:Int),de c,t.r)else Er:=by
 have hl:t.fields.length<2000000:=ht.f;refine(bA t.fields (fun q j=>itL (gm (dC lay0.tab m) m k0 k1) q ((i:Int),j,de c,t.r)) (fun f=>!KH f) (fun _=>Er) (k1 ((i:Int),(t.fields.length:Int),de c,t.r)) (fun q j hj=>?_) (fun q=>?_) (by omega)).trans ?_
 ·rw[bb];have hs:=aa (VF hm t.fields[j].init (ht.fv _ (lρ hj)));simp only[Va.c]at hs;simp only[gm,show t.r.Fields=t.fields.map Fe.e from rfl,lβ,hZ (show(j:Int)<(t.fields.length:Int) by omega),be,aU,bf,bw hj,bG,YN,Fe.r,hs,aY,aJ,aB,h0,wS (show j<eH by unfold eH;omega)];unfold KH;cases aG 100 (t.fields[j].name.length:Int)<;>cases vy t.fields[j].init<;>rfl
 ·rw[bb];simp only[gm,show t.r.Fields=t.fields.map Fe.e from rfl,lβ,eT,bo]
 ·rw[gL];cases t.fields.findIdx? fun f=>!KH f<;>rfl
def ć (c:List Ct)(t:Ct)(me:Cm)(hl:me.code.length<lw)(hy:∀y∈me.code,y.v.L.length<lw)(i k:Nat)(k0 k1:_->R)(h0:∀x,k0 x=Er):itL (gn (dC lay0.tab m) m k0 k1) m ((i:Int),(k:Int),0,de c,t.r,me.r)=bif me.code.all fun y=>vy y.v then k1 ((i:Int),(k:Int),(me.code.length:Int),de c,t.r,me.r)else Er:=by
 have hl:me.code.length<2000000:=hl;refine(bA me.code (fun q j=>itL (gn (dC lay0.tab m) m k0 k1) q ((i:Int),(k:Int),j,de c,t.r,me.r)) (fun y=>!vy y.v) (fun _=>Er) (k1 ((i:Int),(k:Int),(me.code.length:Int),de c,t.r,me.r)) (fun q j hj=>?_) (fun q=>?_) (by omega)).trans ?_
 ·rw[bb];have hs:=aa (VF hm me.code[j].v (hy _ (lρ hj)));simp only[Va.c]at hs;simp only[gn,show me.r.Code=me.code.map Cd.e from rfl,lβ,hZ (show(j:Int)<(me.code.length:Int) by omega),be,aU,bf,bw hj,bG,Vf,Cd.r,hs,aY,aJ,aB,h0,wS (show j<eH by unfold eH;omega)];cases vy me.code[j].v<;>rfl
 ·rw[bb];simp only[gn,show me.r.Code=me.code.map Cd.e from rfl,lβ,eT,bo]
 ·rw[gL];cases me.code.findIdx? fun y=>!vy y.v<;>rfl
def Ć (c:List Ct)(t:Ct)(ht:Bt t)(i:Nat)(k0 k1:_->R)(h0:∀x,k0 x=Er):itL (fE (dC lay0.tab m) m k0 k1) m ((i:Int),0,de c,t.r)=bif t.methods.all Gq then k1 ((i:Int),(t.methods.length:Int),de c,t.r)else Er:=by
 have hl:t.methods.length<2000000:=ht.m;refine(bA t.methods (fun q j=>itL (fE (dC lay0.tab m) m k0 k1) q ((i:Int),j,de c,t.r)) (fun f=>!Gq f) (fun _=>Er) (k1 ((i:Int),(t.methods.length:Int),de c,t.r)) (fun q j hj=>?_) (fun q=>?_) (by omega)).trans ?_
 ·rw[bb];obtain⟨g1,g2⟩:=ht.mc _ (lρ hj);have h4:=ć hm c t t.methods[j] g1 g2 i j (Er:=Er) (fun x=>k0 (x.1,x.2.1,x.2.2)) (fun x=>itL (fE (dC lay0.tab m) m k0 k1) q (x.1,ag .i64 (x.2.1+1),x.2.2.2.1,x.2.2.2.2.1)) (fun _=>h0 _);simp only[fE,show t.r.Methods=t.methods.map Cm.e from rfl,lβ,hZ (show(j:Int)<(t.methods.length:Int) by omega),be,aU,bf,bw hj,bG,FQ,h0];simp only[h0]at h4;show iL (aG 100 (t.methods[j].name.length:Int)) _ (iL (aG 20 ((t.methods[j].params.map iE).length:Int)) _ (iL (aG 40 ((t.methods[j].locals.map iE).length:Int)) _ (iL (aG 120 ((t.methods[j].code.map Cd.e).length:Int)) _ _)))=_;rw[lβ,lβ,lβ];unfold Gq;rw[show itL (gn (dC lay0.tab m) m _ _) m ((i:Int),(j:Int),0,de c,t.r,t.methods[j].r)=_ from h4];simp only[wS (show j<eH by unfold eH;omega)];cases aG 100 (t.methods[j].name.length:Int)<;>cases aG 20 (t.methods[j].params.length:Int)<;>cases aG 40 (t.methods[j].locals.length:Int)<;>cases aG 120 (t.methods[j].code.length:Int)<;>cases t.methods[j].code.all (fun y=>vy y.v)<;>rfl
 ·rw[bb];simp only[fE,show t.r.Methods=t.methods.map Cm.e from rfl,lβ,eT,bo]
 ·rw[gL];cases t.methods.findIdx? fun f=>!Gq f<;>rfl
def Rb (c:List Ct)(hc:Bc c):Ω (m+1) 10 [.p (de c).e] []=dX (vz c):=by
 apply Ry m (de c);unfold Hm vz;have hl:c.length<2000000:=hc.n;show iL (aG 20 ((c.map Ct.e).length:Int)) _ (itL (eW _ _ _ _ _) _ (0,de c))=_;rw[lβ];have run:itL (eW (dC lay0.tab m) m (fun _=>dX false) (fun _=>dX false) (fun _=>dX true)) m (0,de c)=dX (c.all Kq):=by
  refine(bA c (fun q j=>itL (eW (dC lay0.tab m) m (fun _=>dX false) (fun _=>dX false) (fun _=>dX true)) q (j,de c)) (fun t=>!Kq t) (fun _=>dX false) (dX true) (fun q j hj=>?_) (fun q=>?_) (by omega)).trans ?_
  ·rw[bb];have ht:=hc.t _ (lρ hj);have h3:=Ć hm c c[j] ht j (Er:=dX false) (fun _=>dX false) (fun x=>itL (eW (dC lay0.tab m) m (fun _=>dX false) (fun _=>dX false) (fun _=>dX true)) q (ag .i64 (x.1+1),x.2.2.1)) (fun _=>rfl);have h2:=ą hm c c[j] ht j (Er:=dX false) (fun _=>dX false) (fun x=>itL (fE (dC lay0.tab m) m (fun _=>dX false) (fun x=>itL (eW (dC lay0.tab m) m (fun _=>dX false) (fun _=>dX false) (fun _=>dX true)) q (ag .i64 (x.1+1),x.2.2.1))) m (x.1,0,x.2.2.1,x.2.2.2)) (fun _=>rfl)
   simp only[h3]at h2;simp only[eW,show(de c).Types=c.map Ct.e from rfl,lβ,hZ (show(j:Int)<(c.length:Int) by omega),be,aU,bf,bw hj,bG,Cs];show iL (aG 100 (c[j].name.length:Int)) _ (iL (aG 20 ((c[j].fields.map Fe.e).length:Int)) _ (iL (aG 20 ((c[j].methods.map Cm.e).length:Int)) _ _))=_;rw[lβ,lβ];rw[show itL (gm (dC lay0.tab m) m _ _) m ((j:Int),0,de c,c[j].r)=_ from h2];unfold Kq;simp only[wS (show j<eH by unfold eH;omega)];cases aG 100 (c[j].name.length:Int)<;>cases aG 20 (c[j].fields.length:Int)<;>cases aG 20 (c[j].methods.length:Int)<;>cases c[j].fields.all KH<;>cases c[j].methods.all Gq<;>rfl
  ·rw[bb];simp only[eW,show(de c).Types=c.map Ct.e from rfl,lβ,eT,bo]
  ·rw[gL];cases c.findIdx? fun t=>!Kq t<;>rfl
 cases aG 20 (c.length:Int)with
 |true=>rfl
 |false=>exact run
end
end
abbrev Ek:=LI×LI
def Ek.e (e:Ek):Da:= .agg [.slice 1 (e.1.map iE),.slice 1 (e.2.map iE)]
def ly (l:List Ek):R:=some (pL 2 (l.map Ek.e),[])
def Yu (k:Int)(h0:0<=a)(h1:a<17)(hm:30<=m):Ω m 246 [pI k,pI a] []=some (pL 1 ((List.replicate a.toNat k).map iE),[]):=by
 obtain⟨m,rfl⟩:=uz hm;apply JC (m+29) k a;unfold wZ;have hs:Ω (m+29) 303 [pL 1 [.int .i64 k],pI a] []=some (pL 1 ((List.replicate a.toNat k).map iE),[]):=by
  apply JM (m+28) [.int .i64 k] a;unfold xb;have hmul:Ω (m+28) 348 [.p (.int .u64 1),.p (.int .u64 a)] []=some (.tup [.p (.int .u64 0),.p (.int .u64 a)],[]):=by
   apply V5 (m+27) 1 a;unfold MK;have h64:Ω (m+27) 371 [.p (.int .u64 1),.p (.int .u64 a)] []=some (.tup [.p (.int .u64 0),.p (.int .u64 a)],[]):=by
    apply Nd (m+26) 1 a;have:a=0\/a=1\/a=2\/a=3\/a=4\/a=5\/a=6\/a=7\/a=8\/a=9\/a=10\/a=11\/a=12\/a=13\/a=14\/a=15\/a=16:=by omega
    rcases this with rfl|rfl|rfl|rfl|rfl|rfl|rfl|rfl|rfl|rfl|rfl|rfl|rfl|rfl|rfl|rfl|rfl<;>(show A8 _ _ _ _=some _;kernel_rfl)
   rw[aa h64];rfl
  rw[show ag .u64 ((List.length [Da.int .i64 k]:Nat):Int)=1 from rfl];have:a=0\/a=1\/a=2\/a=3\/a=4\/a=5\/a=6\/a=7\/a=8\/a=9\/a=10\/a=11\/a=12\/a=13\/a=14\/a=15\/a=16:=by omega
  rcases this with rfl|rfl|rfl|rfl|rfl|rfl|rfl|rfl|rfl|rfl|rfl|rfl|rfl|rfl|rfl|rfl|rfl<;>(refine(congrArg (iL _ none) (aa hmul _)).trans ?_;kernel_rfl)
 rw[aa hs];simp only[aY];rfl
def lz (m:Cm):LI:=bif az m.res 0 then[]else[m.res]
def wP (me:Cm)(hm:1<=m):Ω m 247 [.p me.e] []=some (pL 1 ((lz me).map iE),[]):=by
 replace hm:=ei hm;obtain⟨m,rfl,hm⟩:=hm;apply JD m me.r;unfold w4 lz;show iL (az me.res 0) _ _=_;cases az me.res 0<;>rfl
def Re (a b:LI)(hm:1<=m):Ω m 245 [pL 1 (a.map iE),pL 1 (b.map iE)] []=ly [(a,b)]:=by
 replace hm:=ei hm;obtain⟨m,rfl,hm⟩:=hm;apply Rz m (a.map iE) (b.map iE);rfl
def Md (a b:LI)(hm:1<=m):Ω m 245 [.arr 0 0 a.length 1,pL 1 (b.map iE)] [.arr (a.map iE)]=some (pL 2 [Ek.e (a,b)],[.fz (a.map iE)]):=by
 replace hm:=ei hm;obtain⟨m,rfl,hm⟩:=hm;apply M3 m a.length (a.map iE) (b.map iE);unfold AY;rw[List.drop_zero,lκ (by rw[lβ];omega)];rfl
def cN (c:List Ct)(t:Ct)(m:Cm)(x:Cd)(top:Int):Option (List Ek):=
 bif az x.op 1 then some [([],[x.v.k])]else bif az x.op 2 then(dj m.locals x.a).map (fun k=>[([],[k])])else bif az x.op 3 then(dj m.locals x.a).map (fun k=>[([k],[])])else
 bif az x.op 4 then(dj t.fields x.a).map (fun f=>[([],[f.kind])])else bif az x.op 5 then(dj t.fields x.a).map (fun f=>[([f.kind],[])])else
 bif az x.op 6 then some [([],[3])]else bif az x.op 7 then some [([1],[1])]else bif az x.op 8 then some [([2],[2])]else
 bif az x.op 9 then some [([1,1],[1])]else bif az x.op 11 then some [([1,1],[1])]else bif az x.op 12 then some [([1,1],[1])]else bif az x.op 13 then some [([1,1],[1])]else bif az x.op 14 then some [([1,1],[1])]else
 bif az x.op 10 then some [([3,3],[3])]else bif az x.op 15 then some [([top,top],[2])]else bif az x.op 16 then some [([top,top],[2])]else
 bif az x.op 17 then some [([1,1],[2]),([3,3],[2])]else bif az x.op 18 then some [([1,1],[2]),([3,3],[2])]else bif az x.op 19 then some [([1,1],[2]),([3,3],[2])]else bif az x.op 20 then some [([1,1],[2]),([3,3],[2])]else
 bif az x.op 21 then some [([3],[1]),([4],[1]),([5],[1])]else bif az x.op 22 then some [([4,1],[1]),([5,1],[3])]else bif az x.op 23 then some [([4,1],[4]),([5,3],[5])]else bif az x.op 24 then some [([4,1,1],[4]),([5,1,3],[5])]else
 bif az x.op 25 then some [([1],[3])]else bif az x.op 26 then some [(List.replicate x.a.toNat 1,[4])]else bif az x.op 27 then some [(List.replicate x.a.toNat 3,[5])]else
 bif az x.op 29 then some [([2],[])]else bif az x.op 30 then(fA c x.a x.b).map (fun q=>[(3::q.params,lz q)])else bif az x.op 31 then some [([top],[])]else bif az x.op 32 then some [(lz m,[])]else
 bif az x.op 34 then some [([3,1],[])]else bif az x.op 35 then some [([3,1,1],[])]else bif az x.op 36 then some [([3],[])]else some [([],[])]
def cX {β:Type}(f:β->R)(b:Bool)(X Y:R)(x y:Option β){r:β}(h:(bif b then x else y)=some r)(hx:x=some r->X=f r)(hy:y=some r->Y=f r):iL b X Y=f r:=by
 cases b
 ·exact hy h
 ·exact hx h
def EQ (c:List Ct)(t:Ct)(me:Cm)(x:Cd)(top:Int)(hz:∀q,fA c x.a x.b=some q->q.params.length<1501)(hi:gX c t me x=true){l:List Ek}(h:cN c t me x top=some l)(hm:31<=m):Ω m 188 [.p (de c).e,.p t.e,.p me.e,.p x.e,pI top] []=ly l:=by
 replace hm:=ei hm;obtain⟨m,rfl,hm⟩:=hm;apply Fm m (de c) t.r me.r x.r top;unfold th;unfold cN at h;have one:∀a b:LI,∀{A B:LD},A=a.map iE->B=b.map iE->(dC lay0.tab m 245 [pL 1 A,pL 1 B] [] fun d o=>dP d fun x=>hM 2 x fun l=>af o<|some (pL 2 l,[]))=ly [(a,b)]:=fun a b A B hA hB=>by
  subst hA hB;rw[aa (Re a b (m:=m) (by omega))];rfl
 have z:∀{u v:List Ek},some u=some v->ly u=ly v:=fun e=>by rw[Option.some.inj e]
 have hrep:∀k:Int,fD x.a 17=true->Ω m 246 [pI k,pI x.a] []=some (pL 1 ((List.replicate x.a.toNat k).map iE),[]):=fun k hw=>by
  unfold fD at hw;rw[lγ,bj,bX,lδ,lδ]at hw;exact Yu k hw.1 hw.2 hm
 unfold gX at hi;rw[lγ,lγ (az x.op 1||fd x.v v0)]at hi;replace hi:=hi.2.2;simp only[Cd.r,Cm.r,Ct.r,de,aU,bf,dI,YN,Fe.r];refine cX ly _ _ _ _ _ h (fun h=>by rw[<-z h];exact one [] [x.v.k] rfl rfl) fun h=>?_
 refine cX ly _ _ _ _ _ h (fun h=>?_) fun h=>?_
 ·cases hk:dj me.locals x.a with
  |none=>rw[hk]at h;cases h
  |some k=>rw[hk]at h;rw[<-z h,bG];exact one [] [k] rfl rfl
 refine cX ly _ _ _ _ _ h (fun h=>?_) fun h=>?_
 ·cases hk:dj me.locals x.a with
  |none=>rw[hk]at h;cases h
  |some k=>rw[hk]at h;rw[<-z h,bG];exact one [k] [] rfl rfl
 refine cX ly _ _ _ _ _ h (fun h=>?_) fun h=>?_
 ·cases hk:dj t.fields x.a with
  |none=>rw[hk]at h;cases h
  |some k=>rw[hk]at h;rw[<-z h,bG];exact one [] [k.kind] rfl rfl
 refine cX ly _ _ _ _ _ h (fun h=>?_) fun h=>?_
 ·cases hk:dj t.fields x.a with
  |none=>rw[hk]at h;cases h
  |some k=>rw[hk]at h;rw[<-z h,bG];exact one [k.kind] [] rfl rfl
 refine cX ly _ _ _ _ _ h (fun h=>by rw[<-z h];exact one [] [3] rfl rfl) fun h=>?_
 refine cX ly _ _ _ _ _ h (fun h=>by rw[<-z h];exact one [1] [1] rfl rfl) fun h=>?_
 refine cX ly _ _ _ _ _ h (fun h=>by rw[<-z h];exact one [2] [2] rfl rfl) fun h=>?_
 refine cX ly _ _ _ _ _ h (fun h=>by rw[<-z h];exact one [1,1] [1] rfl rfl) fun h=>?_
 refine cX ly _ _ _ _ _ h (fun h=>by rw[<-z h];exact one [1,1] [1] rfl rfl) fun h=>?_
 refine cX ly _ _ _ _ _ h (fun h=>by rw[<-z h];exact one [1,1] [1] rfl rfl) fun h=>?_
 refine cX ly _ _ _ _ _ h (fun h=>by rw[<-z h];exact one [1,1] [1] rfl rfl) fun h=>?_
 refine cX ly _ _ _ _ _ h (fun h=>by rw[<-z h];exact one [1,1] [1] rfl rfl) fun h=>?_
 refine cX ly _ _ _ _ _ h (fun h=>by rw[<-z h];exact one [3,3] [3] rfl rfl) fun h=>?_
 refine cX ly _ _ _ _ _ h (fun h=>by rw[<-z h];exact one [top,top] [2] rfl rfl) fun h=>?_
 refine cX ly _ _ _ _ _ h (fun h=>by rw[<-z h];exact one [top,top] [2] rfl rfl) fun h=>?_
 refine cX ly _ _ _ _ _ h (fun h=>by rw[<-z h];rfl) fun h=>?_
 refine cX ly _ _ _ _ _ h (fun h=>by rw[<-z h];rfl) fun h=>?_
 refine cX ly _ _ _ _ _ h (fun h=>by rw[<-z h];rfl) fun h=>?_
 refine cX ly _ _ _ _ _ h (fun h=>by rw[<-z h];rfl) fun h=>?_
 refine cX ly _ _ _ _ _ h (fun h=>by rw[<-z h];rfl) fun h=>?_
 refine cX ly _ _ _ _ _ h (fun h=>by rw[<-z h];rfl) fun h=>?_
 refine cX ly _ _ _ _ _ h (fun h=>by rw[<-z h];rfl) fun h=>?_
 refine cX ly _ _ _ _ _ h (fun h=>by rw[<-z h];rfl) fun h=>?_
 refine cX ly _ _ _ _ _ h (fun h=>by rw[<-z h];exact one [1] [3] rfl rfl) fun h=>?_
 cases h26:az x.op 26 with
 |true=>
  rw[h26,cond_true]at h;have e:x.op=26:=by rw[cE]at h26;exact of_decide_eq_true h26
  rw[e]at hi;rw[be,aa (hrep 1 hi),<-z h];simp only[aY];exact one _ [4] rfl rfl
 |false=>
 rw[h26,cond_false]at h;rw[bo];cases h27:az x.op 27 with
 |true=>
  rw[h27,cond_true]at h;have e:x.op=27:=by rw[cE]at h27;exact of_decide_eq_true h27
  rw[e]at hi;rw[be,aa (hrep 3 hi),<-z h];simp only[aY];exact one _ [5] rfl rfl
 |false=>
 rw[h27,cond_false]at h;rw[bo];refine cX ly _ _ _ _ _ h (fun h=>by rw[<-z h];exact one [2] [] rfl rfl) fun h=>?_
 refine cX ly _ _ _ _ _ h (fun h=>?_) fun h=>?_
 ·cases hk:fA c x.a x.b with
  |none=>rw[hk]at h;cases h
  |some q=>
   rw[hk]at h;rw[<-z h];unfold fA at hk;cases ht:dj c x.a with
   |none=>rw[ht]at hk;cases hk
   |some t2=>
    rw[ht,Option.bind_some]at hk;rw[bG,Cs];show cL (bU (t2.methods.map Cm.e) x.b) _=_;rw[aU,bf,hk,bG,FQ];have hb:=wP (m:=m) q (by omega);have hq:=hz q (by unfold fA;rw[ht];exact hk);simp only[show q.e= .agg [.str q.r.Name,.slice 1 q.r.Params,.int .i64 q.r.Result,.slice 1 q.r.Locals,.slice 8 q.r.Code]from rfl]at hb;simp only[aa hb,aY,oU,aB];show iL _ (dC lay0.tab m 245 [pL 1 [Da.int .i64 3],pL 1 ((lz q).map iE)] [] _) (iL _ (dC lay0.tab m 245 [.arr 0 0 ([Da.int .i64 3]++q.params.map iE).length 1,pL 1 ((lz q).map iE)] [.arr ([Da.int .i64 3]++q.params.map iE)] _) none)=_;cases hp:q.params with
    |nil=>
     rw[show(!List.isEmpty [Da.int .i64 3]&&List.isEmpty q.r.Params)=true by rw[show q.r.Params=([]:LI).map iE by rw[<-hp];rfl];rfl,be]
     exact one [3] (lz q) rfl rfl
    |cons p r=>
     have hA:=Md (m:=m) (3::q.params) (lz q) (by omega);rw[hp]at hA;rw[show(!List.isEmpty [Da.int .i64 3]&&List.isEmpty q.r.Params)=false by rw[show q.r.Params=(p::r).map iE by rw[<-hp];rfl];rfl,bo]
     rw[show c8 (List.length [Da.int .i64 3]+List.length q.r.Params) 8=true from kX (by rw[show q.r.Params=q.params.map iE from rfl,lβ];simp only[List.length_singleton];omega) (by omega),be];have hl:([Da.int .i64 3]++(p::r).map iE).length=(3::p::r).length:=by simp
     rw[hl];refine(aa hA _).trans ?_;rfl
 refine cX ly _ _ _ _ _ h (fun h=>by rw[<-z h];exact one [top] [] rfl rfl) fun h=>?_
 refine cX ly _ _ _ _ _ h (fun h=>?_) fun h=>?_
 ·rw[<-z h];have hb:=wP (m:=m) me (by omega);simp only[show me.e= .agg [.str me.name,.slice 1 (me.params.map iE),.int .i64 me.res,.slice 1 (me.locals.map iE),.slice 8 (me.code.map Cd.e)]from rfl]at hb;simp only[aa hb,aY];exact one _ [] rfl rfl
 refine cX ly _ _ _ _ _ h (fun h=>by rw[<-z h];exact one [3,1] [] rfl rfl) fun h=>?_
 refine cX ly _ _ _ _ _ h (fun h=>by rw[<-z h];exact one [3,1,1] [] rfl rfl) fun h=>?_
 refine cX ly _ _ _ _ _ h (fun h=>by rw[<-z h];exact one [3] [] rfl rfl) fun h=>?_
 rw[<-z h];exact one [] [] rfl rfl
def wd (o:Int)(st:LI):List Ek->LI×Bool
 |[]=>([],false)
 |e::r=>bif decide (st.length<e.1.length)then wd o st r else bif decide (st.drop (st.length - e.1.length)=e.1)then(bif decide (0<st.length - e.1.length)&&(az o 32||az o 30)then([],false)else(st.take (st.length - e.1.length)++e.2,decide (st.length - e.1.length+e.2.length<=40)))else wd o st r
def c9 (st:LI):Int:=st.getLastD 0
def tZ (c:List Ct)(t:Ct)(m:Cm)(x:Cd)(st:LI):Option (LI×Bool):=
 bif st.isEmpty&&(az x.op 15||(az x.op 16||az x.op 31))then some ([],false)else(cN c t m x (c9 st)).map (wd x.op st)
def Zt (r:LI×Bool):R:=some (.tup [pL 1 (r.1.map iE),pB r.2],[])
def W1 {c:List Ct}{t:Ct}{m:Cm}{x:Cd}{top:Int}(hz:∀q,fA c x.a x.b=some q->q.params.length<1501)(hi:gX c t m x=true){l:List Ek}(h:cN c t m x top=some l):l.length<=3/\∀e∈l,e.1.length<1502/\e.2.length<=1:=by
 have hr:∀q:Cm,(lz q).length<=1:=fun q=>by unfold lz;cases az q.res 0<;>simp
 unfold gX at hi;rw[lγ,lγ (az x.op 1||fd x.v v0)]at hi;replace hi:=hi.2.2;unfold cN at h;have s:∀{a b:LI},a.length<1502->b.length<=1->some [(a,b)]=some l->l.length<=3/\∀e∈l,e.1.length<1502/\e.2.length<=1:=fun h1 h2 h=>by
  obtain rfl:=Option.some.inj h;refine⟨by simp,fun e he=>?_⟩
  obtain rfl:=List.mem_singleton.1 he;exact⟨h1,h2⟩
 have b:∀{u:Bool} {x y:Option (List Ek)} {P:Prop},(bif u then x else y)=some l->(u=true->x=some l->P)->(u=false->y=some l->P)->P:=fun {u} _ _ _ h h1 h2=>match u,h,h1,h2 with
  |false,h,_,h2=>h2 rfl h
  |true,h,h1,_=>h1 rfl h
 have mp:∀{γ:Type} {o:Option γ} {f:γ->List Ek} {P:Prop},o.map f=some l->(∀g,o=some g->some (f g)=some l->P)->P:=fun {γ o f P} h h1=>by
  cases o with
  |none=>cases h
  |some g=>exact h1 g rfl h
 refine b h (fun _ h=>s (by simp) (by simp) h) fun _ h=>?_
 refine b h (fun _ h=>mp h fun g _ h=>s (by simp) (by simp) h) fun _ h=>?_
 refine b h (fun _ h=>mp h fun g _ h=>s (by simp) (by simp) h) fun _ h=>?_
 refine b h (fun _ h=>mp h fun g _ h=>s (by simp) (by simp) h) fun _ h=>?_
 refine b h (fun _ h=>mp h fun g _ h=>s (by simp) (by simp) h) fun _ h=>?_
 iterate 11 refine b h (fun _ h=>s (by simp) (by simp) h) fun _ h=>?_
 iterate 8 refine b h (fun _ h=>by obtain rfl:=Option.some.inj h;simp) fun _ h=>?_
 refine b h (fun _ h=>s (by simp) (by simp) h) fun _ h=>?_
 have hw:fD x.a 17=true->x.a.toNat<1502:=fun hw=>by
  unfold fD at hw;rw[lγ,bj,bX,lδ,lδ]at hw;omega
 refine b h (fun h1 h=>s (by rw[mμ];rw[cE,lδ]at h1;rw[h1]at hi;exact hw hi) (by simp) h) fun _ h=>?_
 refine b h (fun h1 h=>s (by rw[mμ];rw[cE,lδ]at h1;rw[h1]at hi;exact hw hi) (by simp) h) fun _ h=>?_
 refine b h (fun _ h=>s (by simp) (by simp) h) fun _ h=>?_
 refine b h (fun _ h=>mp h fun g hg h=>s (by rw[List.length_cons];have:=hz g hg;omega) (hr g) h) fun _ h=>?_
 refine b h (fun _ h=>s (by simp) (by simp) h) fun _ h=>?_
 refine b h (fun _ h=>s (by have:=hr m;omega) (by simp) h) fun _ h=>?_
 iterate 3 refine b h (fun _ h=>s (by simp) (by simp) h) fun _ h=>?_
 exact s (by simp) (by simp) h
def B9 {m:Nat}(x:Cd)(st:LI)(l:List Ek)(hs:st.length<1501)(hl:∀e∈l,e.1.length<1502/\e.2.length<=1)(hll:l.length<100)(hm:1510<=m):∀(d q i:Nat),i+d=l.length->d<q->itL (fw (dC lay0.tab m) m (fun(u18,u19)=>
  some ((.tup [(pL 1 []),(pB false)]),[])) (fun(l20,b21,u22,u23)=>
  some ((.tup [(pL 1 l20),(pB b21)]),[])) (fun(n24,b25,u26,u27,l28)=>
  some ((.tup [(pL 1 (List.take n24 (List.drop 0 l28))),(pB b25)]),[])) (fun(l29,l30,i31,i32,b33,u34)=>
  some ((.tup [(pL 1 []),(pB false)]),[]))) q (st.map iE,l.map Ek.e,(l.length:Int),(i:Int),x.r)=Zt (wd x.op st (l.drop i))
 |0,q+1,i,h,_=>by
  obtain rfl:i=l.length:=by omega
  rw[bb,List.drop_length];simp only[fw,eT,bo];rfl
 |d+1,q+1,i,h,hq=>by
  have hi:i<l.length:=by omega
  obtain⟨he1,he2⟩:=hl _ (lρ hi);have hY:=B9 x st l hs hl hll hm d q (i+1) (by omega) (by omega);rw[bb,mπ hi];rw[wd];simp only[fw,hZ (show((i:Int)<(l.length:Int)) by omega),be,aU,bf,bw hi,bG,wS (show i<eH by unfold eH;omega),hY];generalize l[i]=e at he1 he2;rw[show ∀K,bp e.e K=K ⟨e.1.map iE,e.2.map iE⟩from fun _=>rfl];simp only[lβ];by_cases h1:st.length<e.1.length
  ·rw[lν h1,cond_true,hZ (show ag .i64 ((st.length:Int) - (e.1.length:Int))<0 by rw[fO (by omega) (by omega)];omega),be]
  ·rw[mθ h1,cond_false];have hw:ag .i64 ((st.length:Int) - (e.1.length:Int))=((st.length - e.1.length:Nat):Int):=by rw[fO (by omega) (by omega)];omega
   rw[hw];rw[Q5 (show ¬((st.length - e.1.length:Nat):Int)<0 by omega),bo];have h2:aL 0 ((st.length - e.1.length:Nat):Int)=true:=by rw[bj];exact lν (by omega)
   have h3:aL ((st.length - e.1.length:Nat):Int) (st.length:Int)=true:=by rw[bj];exact lν (by omega)
   have h4:aL ((st.length - e.1.length:Nat):Int) ((st.length - e.1.length:Nat):Int)=true:=by rw[bj];exact lν (by omega)
   simp only[h2,h3,h4,be,Int.toNat_natCast,<-List.map_drop,Nat.beq_refl,Nat.sub_zero,List.drop_zero,<-List.map_take];rw[lκ (l:=st.drop (st.length - e.1.length)) (by rw[mυ];omega)];rw[aa (ER (m:=m) (st.drop (st.length - e.1.length)) e.1 (.inl (by rw[mυ];omega)) (by omega))];simp only[aY,aJ];refine(bM _ _).trans ?_;cases decide (st.drop (st.length - e.1.length)=e.1)
   ·rfl
   rw[cond_true,Bool.not_true,bo];have h5:ag .i64 (((st.length - e.1.length:Nat):Int)+(e.2.length:Int))=((st.length - e.1.length+e.2.length:Nat):Int):=by rw[fO (by omega) (by omega)];omega
   have h6:aL ((st.length - e.1.length+e.2.length:Nat):Int) 40=decide (st.length - e.1.length+e.2.length<=40):=by rw[bj];exact decide_eq_decide.2 (by omega)
   have h7:c8 (((st.take (st.length - e.1.length)).map iE).length+(e.2.map iE).length) 8=true:=kX (by rw[lβ,mγ,lβ];omega) (by omega);have h8:aG 0 ((st.length - e.1.length:Nat):Int)=decide (0<st.length - e.1.length):=by rw[bX];exact decide_eq_decide.2 (by omega)
   rw[lβ,lβ]at h7;have h9:List.take ((st.take (st.length - e.1.length)).map iE++e.2.map iE).length ((st.take (st.length - e.1.length)).map iE++e.2.map iE)=(st.take (st.length - e.1.length)++e.2).map iE:=by rw[List.take_length,List.map_append]
   have ji:(iL (!List.isEmpty ((st.take (st.length - e.1.length)).map iE)&&List.isEmpty (e.2.map iE)) (some (.tup [pL 1 ((st.take (st.length - e.1.length)).map iE),pB (decide (st.length - e.1.length+e.2.length<=40))],[]):R) (some (.tup [pL 1 ((st.take (st.length - e.1.length)++e.2).map iE),pB (decide (st.length - e.1.length+e.2.length<=40))],[])))=Zt (st.take (st.length - e.1.length)++e.2,decide (st.length - e.1.length+e.2.length<=40)):=by
    cases he:e.2 with
    |nil=>rw[mκ];generalize(!List.isEmpty _&&_)=b;cases b<;>rfl
    |cons p r=>rw[show(!List.isEmpty ((st.take (st.length - e.1.length)).map iE)&&List.isEmpty ((p::r).map iE))=false from Bool.and_false _];rfl
   simp only[Cd.r,h5,h6,h7,h8,h9,be,lβ];cases h10:decide (0<st.length - e.1.length)with
   |false=>exact ji
   |true=>
    cases az x.op 32
    ·cases az x.op 30
     ·exact ji
     ·rfl
    ·rfl
def L8 (c:List Ct)(t:Ct)(me:Cm)(x:Cd)(st:LI)(hs:st.length<1501)(hz:∀q,fA c x.a x.b=some q->q.params.length<1501)(hi:gX c t me x=true){r:LI×Bool}(h:tZ c t me x st=some r)(hm:1511<=m):Ω m 108 [.p (de c).e,.p t.e,.p me.e,.p x.e,pL 1 (st.map iE)] []=Zt r:=by
 replace hm:=ei hm;obtain⟨m,rfl,hm⟩:=hm;apply MZ m (de c) t.r me.r x.r (st.map iE);unfold AU;rw[lβ];have key:∀{l:List Ek} {top:Int},cN c t me x top=some l->wd x.op st l=r->(dC lay0.tab m 188 [.p (.agg [.slice 3 (de c).Types]),.p (.agg [.str t.r.Name,.slice 7 t.r.Fields,.slice 5 t.r.Methods]),.p (.agg [.str me.r.Name,.slice 1 me.r.Params,.int .i64 me.r.Result,.slice 1 me.r.Locals,.slice 8 me.r.Code]),.p x.r.e,pI top] [] fun d3 o4=>
  dP d3 fun x5=>
  hM 2 x5 fun l6=>
  af o4<|
  itL (fw (dC lay0.tab m) m (fun(u18,u19)=>
  some ((.tup [(pL 1 []),(pB false)]),[])) (fun(l20,b21,u22,u23)=>
  some ((.tup [(pL 1 l20),(pB b21)]),[])) (fun(n24,b25,u26,u27,l28)=>
  some ((.tup [(pL 1 (List.take n24 (List.drop 0 l28))),(pB b25)]),[])) (fun(l29,l30,i31,i32,b33,u34)=>
  some ((.tup [(pL 1 []),(pB false)]),[]))) m (st.map iE,l6,↑(List.length l6),0,x.r))=Zt r:=fun {l top} he ha=>by
  obtain⟨hn,hl⟩:=W1 hz hi he;refine(aa (EQ c t me x top hz hi he (m:=m) (by omega)) _).trans ?_;rw[aY,oU,aB,lβ];refine(B9 x st l hs hl (by omega) (by omega) l.length m 0 (by omega) (by omega)).trans ?_;rw[List.drop_zero,ha]
 unfold tZ at h;cases st with
 |nil=>
  rw[show aG 0 ((([]:LI).length:Nat):Int)=false from rfl,bo];have hc:(([]:LI).isEmpty&&(az x.op 15||(az x.op 16||az x.op 31)))=(az x.op 15||(az x.op 16||az x.op 31)):=rfl;rw[hc]at h;show iL (az x.op 15) _ (iL (az x.op 16) _ (iL (az x.op 31) _ _))=_;cases h15:az x.op 15 with
  |true=>rw[h15]at h;rw[<-Option.some.inj h];rfl
  |false=>
  cases h16:az x.op 16 with
  |true=>rw[h15,h16]at h;rw[<-Option.some.inj h];rfl
  |false=>
  cases h31:az x.op 31 with
  |true=>rw[h15,h16,h31]at h;rw[<-Option.some.inj h];rfl
  |false=>
   rw[h15,h16,h31]at h;change (cN c t me x 0).map _=_ at h;cases he:cN c t me x 0 with
   |none=>rw[he]at h;cases h
   |some l=>rw[he]at h;exact key he (Option.some.inj h)
 |cons a r'=>
  rw[show aG 0 (((a::r').length:Nat):Int)=true from hZ (by simp only[List.length_cons];omega),be];change (cN c t me x (c9 (a::r'))).map _=_ at h;have hg:bU ((a::r').map iE) (ag .i64 (((a::r').length:Int) - 1))=some (iE (c9 (a::r'))):=by
   rw[fO (by omega) (by omega),aU,show(((a::r').length:Nat):Int) - 1=(((a::r').length - 1:Nat):Int) by simp only[List.length_cons];omega,oL];unfold c9;rw[List.getLastD_cons,<-List.getLast?_eq_getElem?,List.getLast?_cons,<-List.getLastD_eq_getLast?];rfl
  rw[hg,bG];cases he:cN c t me x (c9 (a::r'))with
  |none=>rw[he]at h;cases h
  |some l=>rw[he]at h;exact key he (Option.some.inj h)
def eM (m:Cm)(pc:Nat)(x:Cd):LI×Bool:=
 bif az x.op 32 then([],true)else bif az x.op 33 then([],true)else bif az x.op 28 then([x.a],true)else bif decide (pc+1=m.code.length)then([],false)else bif az x.op 29 then([((pc+1:Nat):Int),x.a],true)else([((pc+1:Nat):Int)],true)
def Rg (me:Cm)(pc:Nat)(h:pc<me.code.length)(hc:me.code.length<1501)(hm:1<=m):Ω m 109 [.p me.e,pI pc] []=Zt (eM me pc me.code[pc]):=by
 replace hm:=ei hm;obtain⟨m,rfl,hm⟩:=hm;apply RB m me.r pc;unfold Hp eM;show cL (bU (me.code.map Cd.e) pc) _=_;rw[aU,bf,bw h,bG,Vf,wS (show pc<eH by unfold eH;omega)];show iL (az me.code[pc].op 32) _ (iL (az me.code[pc].op 33) _ (iL (az me.code[pc].op 28) _ (iL (az ((pc+1:Nat):Int) ((me.code.map Cd.e).length:Int)) _ (iL (az me.code[pc].op 29) _ _))))=_;rw[lβ,cE ((pc+1:Nat):Int),show decide (((pc+1:Nat):Int)=(me.code.length:Int))=decide (pc+1=me.code.length)from decide_eq_decide.2 (by omega)];cases az me.code[pc].op 32<;>cases az me.code[pc].op 33<;>cases az me.code[pc].op 28<;>cases decide (pc+1=me.code.length)<;>cases az me.code[pc].op 29<;>rfl
section
structure SV where
 r:Bool
 st:LI
 set:Nat
def SV.e (v:SV):Da:= .agg [.bool v.r,.slice 1 (v.st.map iE),.int .u64 v.set]
def YQ (v:SV)(K:bh->R):aK v.e K=K ⟨v.r,v.st.map iE,v.set⟩:=rfl
def VO {n:Nat}(h:n<18446744073709551616):ag .u64 (n:Int)=n:=by
 have:Nat.blt n 18446744073709551616=true:=by rw[Nat.blt_eq];exact h
 show(bif Nat.blt n 18446744073709551616 then Int.ofNat n else _)=_;rw[this];rfl
variable {a:Nat}
def YB {b:Nat}(ha:a<256)(hb:b<256):ag .u64 ((BitVec.toNat (BitVec.ofInt (IntKind.bits .u64) (a:Int) &&& BitVec.ofInt (IntKind.bits .u64) (b:Int)):Nat):Int)=((a &&& b:Nat):Int):=by
 show ag .u64 ((BitVec.toNat (BitVec.ofInt 64 (a:Int) &&& BitVec.ofInt 64 (b:Int)):Nat):Int)=_;rw[BitVec.ofInt_natCast,BitVec.ofInt_natCast,BitVec.toNat_and,BitVec.toNat_ofNat,BitVec.toNat_ofNat,Nat.mod_eq_of_lt (by omega),Nat.mod_eq_of_lt (by omega)];have:= @Nat.and_le_left a b;exact VO (by omega)
def ĳ {b:Nat}(ha:a<256)(hb:b<256):ag .u64 ((BitVec.toNat (BitVec.ofInt (IntKind.bits .u64) (a:Int) ||| BitVec.ofInt (IntKind.bits .u64) (b:Int)):Nat):Int)=((a ||| b:Nat):Int):=by
 show ag .u64 ((BitVec.toNat (BitVec.ofInt 64 (a:Int) ||| BitVec.ofInt 64 (b:Int)):Nat):Int)=_;rw[BitVec.ofInt_natCast,BitVec.ofInt_natCast,BitVec.toNat_or,BitVec.toNat_ofNat,BitVec.toNat_ofNat,Nat.mod_eq_of_lt (by omega),Nat.mod_eq_of_lt (by omega)];have:=Nat.or_lt_two_pow (x:=a) (y:=b) (n:=8) (by omega) (by omega);exact VO (by omega)
def ÿ (ha:a<8):ag .u64 (1*2 ^ min a (IntKind.bits .u64))=((2 ^ a:Nat):Int):=by
 have:a=0\/a=1\/a=2\/a=3\/a=4\/a=5\/a=6\/a=7:=by omega
 rcases this with rfl|rfl|rfl|rfl|rfl|rfl|rfl|rfl<;>rfl
def YF {i:Nat}(ha:a<256)(hi:i<64):ag .u64 ((BitVec.toNat (BitVec.ofInt (IntKind.bits .u64) (Int.fdiv (a:Int) (2 ^ min i (IntKind.bits .u64))) &&& BitVec.ofInt (IntKind.bits .u64) 1):Nat):Int)=bif a.testBit i then 1 else 0:=by
 have h1:Int.fdiv (a:Int) (2 ^ min i (IntKind.bits .u64))=((a / 2 ^ i:Nat):Int):=by
  rw[show min i (IntKind.bits .u64)=i from Nat.min_eq_left (by show i<=64;omega)];rw[show(2 ^ i:Int)=((2 ^ i:Nat):Int)from(Int.natCast_pow 2 i).symm▸rfl];exact(Int.fdiv_eq_ediv_of_nonneg _ (Int.natCast_nonneg _)).trans (Int.natCast_ediv _ _).symm
 rw[h1,show(1:Int)=((1:Nat):Int)from rfl,YB (by have:=Nat.div_le_self a (2 ^ i);omega) (by omega),Nat.and_one_is_mod,Nat.testBit_eq_decide_div_mod_eq];rcases Nat.mod_two_eq_zero_or_one (a / 2 ^ i)with h|h<;>rw[h]<;>rfl
def D1 (st:LI)(set:Nat)(to:Int)(s:List SV)(w:LN):Option (List SV×LN):=
 match s[to.toNat]? with
 |none=>none
 |some v=>bif v.r then(bif decide (v.st=st)then(bif decide (v.set &&& set=v.set)then some (s,w)else some (s.set to.toNat ⟨v.r,v.st,v.set &&& set⟩,to.toNat::w))else none)else some (s.set to.toNat ⟨true,st,set⟩,to.toNat::w)
def lm (st:LI)(set:Nat):LI->List SV->LN->Option (List SV×LN)
 |[],s,w=>some (s,w)
 |to::r,s,w=>(D1 st set to s w).bind fun p=>lm st set r p.1 p.2
def lA (x:Cd)(set:Nat):Nat:=bif az x.op 3 then set ||| 2 ^ x.a.toNat else set
def oH (c:List Ct)(t:Ct)(m:Cm):Nat->List SV->LN->Option (List SV)
 |0,s,_=>some s
 |_+1,s,[]=>some s
 |e+1,s,pc::w=>
  match m.code[pc]?,s[pc]? with
  |some x,some v=>
   match tZ c t m x v.st with
   |some (st,true)=>bif(eM m pc x).2 then(lm st (lA x v.set) (eM m pc x).1 s w).bind fun p=>oH c t m e p.1 p.2 else none
   |_=>none
  |_,_=>none
def wE (p:Nat):Da:=iE p
structure yO (m:Cm)(s:List SV):Prop where
 n:s.length=m.code.length
 v:∀v∈s,v.st.length<=40/\v.set<256
def GJ:List SV->Nat
 |[]=>0
 |v::r=>(bif v.r then v.set else 256)+GJ r
def sU:∀(s:List SV) (i:Nat) (h:i<s.length) (v:SV),GJ (s.set i v)+(bif s[i].r then s[i].set else 256)=GJ s+(bif v.r then v.set else 256)
 |u::r,0,_,v=>by simp only[List.set_cons_zero,GJ,List.getElem_cons_zero];omega
 |u::r,i+1,h,v=>by
  have:=sU r i (by simpa using h) v;simp only[List.set_cons_succ,GJ,List.getElem_cons_succ];omega
def yO.set {m:Cm}{s:List SV}(h:yO m s)(i:Nat){v:SV}(h1:v.st.length<=40)(h2:v.set<256):yO m (s.set i v):=by
 refine⟨by rw[List.length_set];exact h.n,fun u hu=>?_⟩
 rcases List.mem_or_eq_of_mem_set hu with hu|rfl
 ·exact h.v u hu
 ·exact⟨h1,h2⟩
def HW {b:Nat}(h:a<256):a &&& b<256:=Nat.lt_of_le_of_lt Nat.and_le_left h
variable {st:LI} {w:LN}
def X1 {me:Cm}{set:Nat}{to:Int}{s s':List SV}{w':LN}(h:D1 st set to s w=some (s',w'))(hs:yO me s)(h1:st.length<=40)(h2:set<256):yO me s'/\w'.length+GJ s'<=w.length+GJ s/\w'.length<=w.length+1/\∀p∈w',p∈w\/(p<me.code.length/\p=to.toNat):=by
 unfold D1 at h;cases hv:s[to.toNat]? with
 |none=>rw[hv]at h;cases h
 |some v=>
  rw[hv]at h;obtain⟨hl,hg⟩:=List.getElem?_eq_some_iff.1 hv;have hvm:=hs.v v (hg▸lρ hl);have hp:=fun u=>sU s to.toNat hl u
  rw[hg]at hp;have hl':to.toNat<me.code.length:=by rw[<-hs.n];exact hl
  have hmem:∀p∈to.toNat::w,p∈w\/(p<me.code.length/\p=to.toNat):=fun p hp=>by
   rcases lω.1 hp with rfl|hp
   ·exact .inr ⟨hl',rfl⟩
   ·exact .inl hp
  revert h
  show(bif v.r then _ else _)=_->_;cases hr:v.r with
  |true=>
   rw[hr]at hp;by_cases e1:v.st=st
   ·by_cases e2:v.set &&& set=v.set
    ·simp only[lν e1,lν e2,cond_true];rintro h;cases h;exact⟨hs,Nat.le_refl _,by omega,fun p hp=> .inl hp⟩
    ·simp only[lν e1,mθ e2,cond_true,cond_false];rintro h;cases h;have:=hp ⟨true,v.st,v.set &&& set⟩;simp only[cond_true]at this;have:= @Nat.and_le_left v.set set;exact⟨hs.set _ hvm.1 (HW hvm.2),by simp only[List.length_cons];omega,by simp,hmem⟩
   ·simp only[mθ e1,cond_true,cond_false];rintro h;cases h
  |false=>
   rw[hr]at hp;rintro h;cases h;have:=hp ⟨true,st,set⟩;simp only[cond_true,cond_false]at this;exact⟨hs.set _ h1 h2,by simp only[List.length_cons];omega,by simp,hmem⟩
def UI {wl:LD}(to:Nat)(h:wl.take w.length=w.reverse.map wE):(wl.take w.length++[wE to]).take (to::w).length=(to::w).reverse.map wE/\(wl.take w.length++List.take 1 (List.drop 0 [wE to])).length=(to::w).length:=by
 have hl:(wl.take w.length++[wE to]).length=(to::w).length:=by rw[h];simp
 refine⟨?_,hl⟩;rw[<-hl,List.take_length,h,List.reverse_cons,List.map_append];rfl
def Yf {wl:LD}{pc:Nat}(h:wl.take (pc::w).length=(pc::w).reverse.map wE):wl[w.length]?=some (wE pc)/\wl.take w.length=w.reverse.map wE:=by
 rw[List.reverse_cons,List.map_append]at h;constructor
 ·have:=congrArg (fun l:LD=>l[w.length]?) h;simp only[List.getElem?_take,List.length_cons,Nat.lt_succ_self,if_true]at this;rw[this,lσ (by simp)];simp
 ·have:=congrArg (List.take w.length) h;rw[List.take_take,List.length_cons,Nat.min_eq_left (by omega)]at this;rw[this,List.take_append_of_le_length (by simp),lκ (by simp)]
def mP {α:Type}(o:Option α)(E:Prop)(K:α->Prop):Prop:=match o with|none=>E|some a=>K a
section
variable {m:Nat} (c:List Ct) (t:Ct) (me:Cm)
def N3 (hc:me.code.length<1501)(hm:2000<=m){Er:R}{k0:_->R}{k1:_->R}(hk0:∀x,k0 x=Er)(st:LI)(set:Nat)(h1:st.length<=40)(h2:set<256)(tos:LI)(ht:∀k∈tos,0<=k/\k<me.code.length)(htl:tos.length<100):∀(d q i:Nat) (s:List SV) (w:LN) (wl:LD),yO me s->wl.take w.length=w.reverse.map wE->w.length+d<1000000->i+d=tos.length->d<q->
  mP (lm st set (tos.drop i) s w) (itL (dA (dC lay0.tab m) m k0 k1) q (me.code.length,w.length,st.map iE,(set:Int),tos.map iE,(tos.length:Int),(i:Int),de c,t.r,me.r,s.map SV.e,wl)=Er) (fun p=>∃wl',wl'.take p.2.length=p.2.reverse.map wE/\itL (dA (dC lay0.tab m) m k0 k1) q (me.code.length,w.length,st.map iE,(set:Int),tos.map iE,(tos.length:Int),(i:Int),de c,t.r,me.r,s.map SV.e,wl)=k1 (me.code.length,p.2.length,st.map iE,(set:Int),tos.map iE,(tos.length:Int),(tos.length:Int),de c,t.r,me.r,p.1.map SV.e,wl'))
 |0,q+1,i,s,w,wl,hs,hw,hb,h,_=>by
  obtain rfl:i=tos.length:=by omega
  rw[List.drop_length];refine⟨wl,hw,?_⟩;rw[bb];simp only[dA,eT,bo]
 |d+1,q+1,i,s,w,wl,hs,hw,hb,h,hq=>by
  have hi:i<tos.length:=by omega
  obtain⟨g0,g1⟩:=ht _ (lρ hi);have hl:tos[i].toNat<s.length:=by rw[hs.n];omega
  have hv:=hs.v _ (lρ hl);have hd:=mπ hi;rw[hd,lm,bb];have hg:(s.map SV.e)[0+tos[i].toNat]?=some (s[tos[i].toNat].e):=by rw[Nat.zero_add,lξ,lε hl];rfl
  have b0:aL 0 tos[i]=true:=by rw[bj];exact lν g0
  have hb1:c8 ((wl.take w.length).length+(List.take 1 (List.drop 0 [Da.int .i64 tos[i]])).length) 8=true:=kX (by rw[hw,lβ,List.length_reverse];show w.length+1<_;omega) (by omega);have e2:∀a:Nat,az ((a &&& set:Nat):Int) (a:Int)=decide (a &&& set=a):=fun a=>by
   rw[cE];exact decide_eq_decide.2 (by omega)
  have ew:Da.int .i64 tos[i]=wE tos[i].toNat:=by unfold wE iE;rw[mσ g0]
  obtain⟨tp1,tp2⟩:=UI tos[i].toNat hw;have step:=fun(s':List SV) (hs':yO me s')=>N3 hc hm (k1:=k1) hk0 st set h1 h2 tos ht htl d q (i+1) s' (tos[i].toNat::w) (wl.take w.length++[wE tos[i].toNat]) hs' tp1 (by simp only[List.length_cons];omega) (by omega) (by omega)
  have same:=N3 hc hm (k1:=k1) hk0 st set h1 h2 tos ht htl d q (i+1) s w wl hs hw (by omega) (by omega) (by omega);simp only[dA,hZ (show((i:Int)<(tos.length:Int)) by omega),be,aU,bf,bw hi,bG,dI,b0,hZ g1,hg,show PO (s[tos[i].toNat].e)=true from rfl,YQ,wS (show i<eH by unfold eH;omega),hk0,e2,YB hv.2 h2,hb1,aa (ER (m:=m) (s[tos[i].toNat].st) st (.inl (by omega)) (by omega)),aY,aJ,bM]
  unfold D1;rw[lε hl];rw[ew,tp2,Nat.zero_add];show mP (Option.bind (bif s[tos[i].toNat].r then _ else _) _) _ _;have hset:∀u:SV,(s.map SV.e).set tos[i].toNat u.e=(s.set tos[i].toNat u).map SV.e:=fun u=>List.map_set.symm
  cases hr:s[tos[i].toNat].r with
  |false=>
   have:=step (s.set tos[i].toNat ⟨true,st,set⟩) (hs.set _ h1 h2);rw[<-hset]at this;exact this
  |true=>
   rw[be,cond_true];cases decide (s[tos[i].toNat].st=st)with
   |false=>exact rfl
   |true=>
    rw[be,cond_true];cases decide (s[tos[i].toNat].set &&& set=s[tos[i].toNat].set)with
    |true=>exact same
    |false=>
     have:=step (s.set tos[i].toNat ⟨true,s[tos[i].toNat].st,s[tos[i].toNat].set &&& set⟩) (hs.set _ hv.1 (HW hv.2));rw[<-hset]at this;exact this
end
def jO {c t m x}(h:gX c t m x=true):(bif az x.op 1 then ra x.v&&!az x.v.k 0 else bif az x.op 2 then fD x.a m.locals.length else bif az x.op 3 then fD x.a m.locals.length else bif az x.op 4 then fD x.a t.fields.length else bif az x.op 5 then fD x.a t.fields.length else bif az x.op 26 then fD x.a 17 else bif az x.op 27 then fD x.a 17 else bif az x.op 28 then fD x.a m.code.length else bif az x.op 29 then fD x.a m.code.length else bif az x.op 30 then(fA c x.a x.b).isSome else true)=true:=by
 unfold gX at h;rw[lγ,lγ (az x.op 1||fd x.v v0)]at h;exact h.2.2
def EJ {x:Int}{n:Nat}(h:fD x n=true):0<=x/\x<n:=by
 unfold fD at h;rw[lγ,bj,bX,lδ,lδ]at h;exact h
def iR {α:Type}{l:List α}{x:Int}(h:0<=x/\x<l.length):∃y,dj l x=some y/\y∈l:=by
 have:=Hk l x;have h2:fD x (l.length:Int)=true:=by unfold fD;rw[bj,bX,lν h.1,lν h.2];rfl
 rw[h2]at this;obtain⟨y,hy⟩:=Option.isSome_iff_exists.1 this.symm;refine⟨y,hy,?_⟩;unfold dj at hy;rw[if_pos h.1]at hy;exact mδ hy
def eqI_t {a b:Int}:az a b=true↔a=b:=by rw[cE,lδ]
def Þ {c t m x}(top:Int)(h:gX c t m x=true):∃l,cN c t m x top=some l:=by
 have h1:=jO h;unfold cN;have b:∀{u:Bool} {x y:Option (List Ek)},(u=true->∃l,x=some l)->(u=false->∃l,y=some l)->∃l,(bif u then x else y)=some l:=fun {u} _ _ h1 h2=>match u,h1,h2 with
  |false,_,h2=>h2 rfl
  |true,h1,_=>h1 rfl
 have mp:∀{γ:Type} {l:List γ} {f:γ->List Ek},fD x.a l.length=true->∃r,(dj l x.a).map f=some r:=fun {γ l f} hw=>by
  obtain⟨y,hy,-⟩:=iR (EJ hw);rw[hy];exact⟨_,rfl⟩
 refine b (fun _=>⟨_,rfl⟩) fun _=>?_
 refine b (fun e=>by rw[eqI_t.1 e]at h1;exact mp h1) fun _=>?_
 refine b (fun e=>by rw[eqI_t.1 e]at h1;exact mp h1) fun _=>?_
 refine b (fun e=>by rw[eqI_t.1 e]at h1;exact mp h1) fun _=>?_
 refine b (fun e=>by rw[eqI_t.1 e]at h1;exact mp h1) fun _=>?_
 iterate 23 refine b (fun _=>⟨_,rfl⟩) fun _=>?_
 refine b (fun e=>?_) fun _=>?_
 ·rw[eqI_t.1 e]at h1;obtain⟨y,hy⟩:=Option.isSome_iff_exists.1 h1;rw[hy];exact⟨_,rfl⟩
 iterate 5 refine b (fun _=>⟨_,rfl⟩) fun _=>?_
 exact⟨_,rfl⟩
def Ï {c t m x}(st:LI)(h:gX c t m x=true):∃r,tZ c t m x st=some r:=by
 unfold tZ;obtain⟨l,hl⟩:=Þ (c9 st) h;rw[hl];cases st.isEmpty&&(az x.op 15||(az x.op 16||az x.op 31))
 ·exact⟨_,rfl⟩
 ·exact⟨_,rfl⟩
def yS {o:Int}{st st':LI}:∀{l:List Ek},wd o st l=(st',true)->st'.length<=40
 |[],h=>by cases h
 |e::r,h=>by
  unfold wd at h;revert h;by_cases h1:st.length<e.1.length
  ·rw[lν h1];exact yS
  ·rw[mθ h1];by_cases h2:st.drop (st.length - e.1.length)=e.1
   ·rw[lν h2];cases decide (0<st.length - e.1.length)&&(az o 32||az o 30)
    ·intro h;simp only[cond_true,cond_false,lμ,lδ]at h;rw[<-h.1,mη,mγ];omega
    ·intro h;cases h
   ·rw[mθ h2];exact yS
def yT {c t m x}{st':LI}(h:tZ c t m x st=some (st',true)):st'.length<=40:=by
 unfold tZ at h;cases hb:st.isEmpty&&(az x.op 15||(az x.op 16||az x.op 31))with
 |true=>rw[hb]at h;cases h
 |false=>
  rw[hb,cond_false]at h;cases he:cN c t m x (c9 st)with
  |none=>rw[he]at h;cases h
  |some l=>rw[he]at h;exact yS (Option.some.inj h)
def QH {c t m x pc}(h:gX c t m x=true)(hp:pc<m.code.length)(h2:(eM m pc x).2=true):(∀k∈(eM m pc x).1,0<=k/\k<m.code.length)/\(eM m pc x).1.length<=2:=by
 have h1:=jO h;unfold eM at h2 ⊢
 have b:∀{u:Bool} {x y:LI×Bool} {P:LI×Bool->Prop},(u=true->x.2=true->P x)->(u=false->y.2=true->P y)->(bif u then x else y).2=true->P (bif u then x else y):=fun {u} _ _ _ h1 h2 h=>match u,h1,h2,h with
  |false,_,h2,h=>h2 rfl h
  |true,h1,_,h=>h1 rfl h
 refine b (P:=fun z=>(∀k∈z.1,0<=k/\k<(m.code.length:Int))/\z.1.length<=2) (fun _ _=>by simp) (fun _=>?_) h2;refine b (P:=fun z=>(∀k∈z.1,0<=k/\k<(m.code.length:Int))/\z.1.length<=2) (fun _ _=>by simp) (fun _=>?_);refine b (P:=fun z=>(∀k∈z.1,0<=k/\k<(m.code.length:Int))/\z.1.length<=2) (fun e _=>?_) (fun _=>?_)
 ·rw[eqI_t.1 e]at h1;have:=EJ h1;refine⟨fun k hk=>?_,by simp⟩
  obtain rfl:=List.mem_singleton.1 hk;exact this
 refine b (P:=fun z=>(∀k∈z.1,0<=k/\k<(m.code.length:Int))/\z.1.length<=2) (fun _ h=>by cases h) (fun e4=>?_);rw[lζ]at e4;refine b (P:=fun z=>(∀k∈z.1,0<=k/\k<(m.code.length:Int))/\z.1.length<=2) (fun e _=>?_) (fun _ _=>?_)
 ·rw[eqI_t.1 e]at h1;have:=EJ h1;refine⟨fun k hk=>?_,by simp⟩
  simp only[lω,List.not_mem_nil,or_false]at hk;rcases hk with rfl|rfl
  ·omega
  ·exact this
 ·refine⟨fun k hk=>?_,by simp⟩
  obtain rfl:=List.mem_singleton.1 hk;omega
def G5 {c t m x}{set:Nat}(h:gX c t m x=true)(hl:m.locals.length<=8)(hs:set<256):lA x set<256:=by
 have h1:=jO h;unfold lA;cases e:az x.op 3 with
 |false=>exact hs
 |true=>
  rw[eqI_t.1 e]at h1;have:=EJ h1;have h2:x.a.toNat<8:=by omega
  have h3:2 ^ x.a.toNat<2 ^ 8:=Nat.pow_lt_pow_right (by omega) h2;exact Nat.or_lt_two_pow (x:=set) (y:=2 ^ x.a.toNat) (n:=8) (by omega) h3
def sW {me:Cm}{st:LI}{set:Nat}(h1:st.length<=40)(h2:set<256):∀{tos:LI} {s s':List SV} {w w':LN},lm st set tos s w=some (s',w')->yO me s->(∀p∈w,p<me.code.length)->yO me s'/\w'.length+GJ s'<=w.length+GJ s/\w'.length<=w.length+tos.length/\∀p∈w',p<me.code.length
 |[],s,s',w,w',h,hs,hw=>by cases h;exact⟨hs,Nat.le_refl _,by simp,hw⟩
 |to::r,s,s',w,w',h,hs,hw=>by
  unfold lm at h;cases hp:D1 st set to s w with
  |none=>rw[hp]at h;cases h
  |some p=>
   rw[hp]at h;obtain⟨q1,q2,q3,q4⟩:=X1 (s':=p.1) (w':=p.2) hp hs h1 h2;obtain⟨r1,r2,r3,r4⟩:=sW h1 h2 h q1 fun x hx=>by
    rcases q4 x hx with h|h
    ·exact hw x h
    ·exact h.1
   exact⟨r1,by omega,by simp only[List.length_cons];omega,r4⟩
structure HI (c:List Ct)(t:Ct)(m:Cm):Prop where
 z:Î m
 l:m.locals.length<=8
 p:m.params.length<=4
 pl:m.locals.take m.params.length=m.params
 n:0<m.code.length
 i:∀x∈m.code,gX c t m x=true
 q:∀x∈m.code,∀q,fA c x.a x.b=some q->q.params.length<1501
section
variable {m:Nat} (c:List Ct) (t:Ct) (me:Cm) (hf:HI c t me) (hm:2000<=m)
include hf hm
def UZ {Er:R}{k0:_->R}{k1:_->R}{k2:_->R}{G:LD->R}(hk0:∀x,k0 x=Er)(hk1:∀x,k1 x=Er)(hk2:∀n s w,k2 (me.code.length,n,de c,t.r,me.r,s,w)=G s):∀(e q:Nat) (s:List SV) (w:LN) (wl:LD),yO me s->(∀p∈w,p<me.code.length)->wl.take w.length=w.reverse.map wE->w.length+GJ s<=e->e<900000->e<q->
  itL (dz (dC lay0.tab m) m k0 k1 k2) q (me.code.length,w.length,de c,t.r,me.r,s.map SV.e,wl)=mO (oH c t me e s w) Er fun s'=>G (s'.map SV.e)
 |e,q+1,s,[],wl,hs,hp,hw,he,heb,hq=>by
  rw[bb];have:oH c t me e s []=some s:=by cases e<;>rfl
  rw[this];simp only[dz,hk2,show aG 0 ((([]:LN).length:Nat):Int)=false from rfl,bo];rfl
 |0,q+1,s,pc::w,wl,hs,hp,hw,he,heb,hq=>by simp only[List.length_cons]at he;omega
 |e+1,q+1,s,pc::w,wl,hs,hp,hw,he,heb,hq=>by
  have hpc:pc<me.code.length:=hp pc lυ;have hpw:∀p∈w,p<me.code.length:=fun p h=>hp p (mα _ h)
  have hps:pc<s.length:=by rw[hs.n];exact hpc
  have hin:=hf.i _ (lρ hpc);have hv:=hs.v _ (lρ hps);have hcl:=hf.z.c;obtain⟨r,hr⟩:=Ï s[pc].st hin;simp only[List.length_cons]at he;obtain⟨tp1,tp2⟩:=Yf hw;rw[bb];have w1:ag .i64 (((pc::w).length:Int) - 1)=(w.length:Int):=by simp only[List.length_cons];rw[fO (by omega) (by omega)];omega
  have n0:aG 0 ((pc::w).length:Int)=true:=hZ (by simp only[List.length_cons];omega);have n1:aL 0 (w.length:Int)=true:=by rw[bj];exact lν (by omega)
  have n2:aG (w.length:Int) ((pc::w).length:Int)=true:=hZ (by simp only[List.length_cons];omega);have n3:aL (w.length:Int) ((pc::w).length:Int)=true:=by rw[bj];exact lν (by simp only[List.length_cons];omega)
  have g1:wl[0+w.length]?=some (wE pc):=by rw[Nat.zero_add];exact tp1
  have p0:aL 0 (pc:Int)=true:=by rw[bj];exact lν (by omega)
  have g2:(s.map SV.e)[0+pc]?=some (s[pc].e):=by rw[Nat.zero_add,lξ,lε hps];rfl
  have ha:=aa (L8 c t me me.code[pc] s[pc].st (by omega) (hf.q _ (lρ hpc)) hin hr (m:=m) (by omega));have hsu:=aa (Rg me pc hpc hcl (m:=m) (by omega));unfold oH;rw[lε hpc,lε hps];simp only[hr];simp only[dz,w1,n0,n1,n2,n3,be,Int.toNat_natCast,g1,bG,show PO (wE pc)=false from rfl,bo,show ∀K,ba .i64 (wE pc) K=K (pc:Int)from fun _=>rfl,show me.r.Code=me.code.map Cd.e from rfl,aU,bf,bw hpc,Vf,p0,hZ (show(pc:Int)<(me.code.length:Int) by omega),g2,YQ,hk0,hk1,Nat.sub_zero];refine(ha _).trans ?_;simp only[c3,aR,aY,oU,aJ,aB];obtain⟨st',b⟩:=r;cases b with
  |false=>
   simp only[bo];refine(hsu _).trans ?_;simp only[c3,aR,aY,oU,aJ,aB];cases(eM me pc me.code[pc]).2<;>rfl
  |true=>
   simp only[be];refine(hsu _).trans ?_;simp only[c3,aR,aY,oU,aJ,aB];cases h2:(eM me pc me.code[pc]).2 with
   |false=>rfl
   |true=>
    obtain⟨ht,htl⟩:=QH hin hpc h2;have hsl:=G5 hin hf.l hv.2;have hst:=yT hr;have run:=fun k1=>N3 c t me hcl (show 2000<=m from hm) (Er:=Er) (k0:=fun x=>Er) (k1:=k1) (fun _=>rfl) st' (lA me.code[pc] s[pc].set) hst hsl (eM me pc me.code[pc]).1 ht (by omega) (eM me pc me.code[pc]).1.length m 0 s w wl hs tp2 (by omega) (by omega) (by omega)
    rw[be,cond_true];have ji:itL (dA (dC lay0.tab m) m (fun x=>Er) (fun(n77,n78,l79,i80,l81,i82,i83,u84,u85,u86,l87,l88)=>itL (dz (dC lay0.tab m) m k0 k1 k2) q (n77,n78,u84,u85,u86,l87,l88))) m (me.code.length,w.length,st'.map iE,((lA me.code[pc] s[pc].set:Nat):Int),(eM me pc me.code[pc]).1.map iE,((eM me pc me.code[pc]).1.length:Int),((0:Nat):Int),de c,t.r,me.r,s.map SV.e,wl)=mO ((lm st' (lA me.code[pc] s[pc].set) (eM me pc me.code[pc]).1 s w).bind fun p=>oH c t me e p.1 p.2) Er fun s'=>G (s'.map SV.e):=by
     have h:=run (fun(n77,n78,l79,i80,l81,i82,i83,u84,u85,u86,l87,l88)=>itL (dz (dC lay0.tab m) m k0 k1 k2) q (n77,n78,u84,u85,u86,l87,l88));rw[List.drop_zero]at h;cases hpr:lm st' (lA me.code[pc] s[pc].set) (eM me pc me.code[pc]).1 s w with
     |none=>rw[hpr]at h;exact h
     |some p=>
      rw[hpr]at h;obtain⟨wl',h3,h4⟩:=h;obtain⟨o1,o2,o3,o4⟩:=sW (s':=p.1) (w':=p.2) hst hsl hpr hs hpw;rw[h4];exact UZ hk0 hk1 hk2 e q p.1 p.2 wl' o1 o4 h3 (by omega) (by omega) (by omega)
    have h1:=jO hin;have e3:az me.code[pc].r.Op 3=az me.code[pc].op 3:=rfl;rw[e3];unfold lA at ji ⊢
    cases h3:az me.code[pc].op 3 with
    |false=>rw[h3]at ji;rw[bo,lβ];exact ji
    |true=>
     rw[h3]at ji;rw[be];rw[eqI_t.1 h3]at h1;have hw1:=EJ h1;have hlo:=hf.l;have e5:aG me.code[pc].r.A 0=false:=Q5 (show ¬me.code[pc].a<0 by omega);rw[e5,bo];have e6:ag .u64 (1*2 ^ min (Int.toNat me.code[pc].r.A) (IntKind.bits .u64))=((2 ^ me.code[pc].a.toNat:Nat):Int):=ÿ (show me.code[pc].a.toNat<8 by omega);have e7:2 ^ me.code[pc].a.toNat<2 ^ 8:=Nat.pow_lt_pow_right (by omega) (show me.code[pc].a.toNat<8 by omega);simp only[e6,ĳ hv.2 (show 2 ^ me.code[pc].a.toNat<256 by omega),lβ];exact ji
end
end
end
end Go.Ab
