import Derived.Test.YtmnmeiibmgcddaaGreatDoorKg2
import Derived.Test.YtmnmeiibmgcddaaGreatDoorKg0
import Derived.Test.YtmnmeiibmgcddaaGreatDoorOg2
import Derived.Test.YtmnmeiibmgcddaaGreatDoorOg3
import Derived.Test.YtmnmeiibmgcddaaGreatDoorKg1
set_option linter.all false
namespace Go.Ab
open Go
set_option maxRecDepth 100000
noncomputable section
def bD (b:LN):LD:=b.map fun x=>Da.int .u8 (Int.ofNat x)
def fB (a b:LN):bD (a++b)=bD a++bD b:=List.map_append
def bU (a:LN):(bD a).length=a.length:=lα ..
def lP (s:LN):LN:=fU s.length++s
def gZ (l:LI):LN:=fU l.length++l.flatMap fun i=>fU (zz i)
def mN (l:List LN):LN:=fU l.length++l.flatMap lP
def aB (l:LD):R:=some (.arr 1 0 l.length 1,[.dead,.arr l])
def Wq {cc:af}{n:Nat}(k0:_->R)(hk:∀(l:LD) (w:Nat),w<128->l.length<1000000000->k0 (l.length,(w:Int),l)=aB (l++bD [w])):∀(f q v:Nat) (l:LD),v<128 ^ (f+1)->f<q->l.length+f<1000000000->itL (gC cc n k0) q (l.length,(v:Int),l)=aB (l++bD (Jn f v))
 |0,q+1,v,l,hv,hq,hl=>by
  have hv:v<128:=by simpa using hv
  rw[aQ];simp only[gC];rw[show aV 128 (v:Int)=false by rw[bk];exact mβ (by omega),aX];exact hk l v hv (by omega)
 |f+1,q+1,v,l,hv,hq,hl=>by
  rw[aQ];simp only[gC];unfold Jn;cases h:Nat.blt v 128 with
  |true=>
   rw[Nat.blt_eq]at h;rw[show aV 128 (v:Int)=false by rw[bk];exact mβ (by omega),aX,cond_true];exact hk l v h (by omega)
  |false=>
   have h:¬v<128:=fun e=>by rw[show Nat.blt v 128=true by rw[Nat.blt_eq];exact e]at h;cases h
   rw[show aV 128 (v:Int)=true by rw[bk];exact lκ (by omega),aN,cond_false,Nat.beq_refl,aN,dz (by simp only[List.length_cons,List.length_nil];omega) (by decide),aN,aaY,sh7];have:=Wq (cc:=cc) (n:=n) k0 hk f q (v / 128) (l++bD [v % 128+128]) (by rw[Nat.pow_succ]at hv;omega) (by omega) (by rw[lε,bU];simp only[List.length_cons,List.length_nil];omega);rw[lρ,<-fB]at this;exact this
variable {m z:Nat}
def hU {l:LD}(v:Nat)(hz:z=l.length)(hv:v<18446744073709551616)(hl:l.length<999999900)(hm:12<=m):Ω m 192 [.arr 0 0 z 1,.p (.int .u64 (v:Int))] [.arr l]=aB (l++bD (fU v)):=by
 subst hz;replace hm:=fuel hm;obtain⟨m,rfl,hm⟩:=hm;apply Kn m l.length l v;unfold xc;refine Wq _ (fun l w hw hl=>?_) 9 m v l (mψ hv (by decide)) (by omega) (by omega);simp only[Nat.beq_refl,aN];rw[dz (by simp only[List.length_cons,List.length_nil];omega) (by decide),aN,WX (by omega)];rfl
def abF (i z n:Nat)(k:Nat->R):cf i z (.arr i 0 n z) k=k n:=by
 unfold cf;simp only[Nat.beq_refl,Bool.and_self,aN]
def vz {i z f n:Nat}{vs:List D}{hp:List Ob}{tab}{l:LD}(h:evFn tab n f vs hp=aB l)(K:Nat->LD->R):(cq tab n f vs hp fun d o=>cf 1 1 d fun n=>aa o fun u o'=>jb u<|aa o' fun u o'=>bL u fun l=>ag o'<|K n l)=K l.length l:=by
 rw[ae h];simp only[abF];rfl
def sS {l:LD}(v:Int)(hz:z=l.length)(hv:kg v)(hl:l.length<999999900)(hm:13<=m):Ω m 119 [.arr 0 0 z 1,pI v] [.arr l]=aB (l++bD (fU (zz v))):=by
 replace hm:=fuel hm;obtain⟨m,rfl,hm⟩:=hm;apply Pv m z l v;unfold A4;have h1:v<9223372036854775808:=by have:=hv.2;omega
 rw[a_ v hv.1 h1];refine(vz (i:=0) (z:=0) (hU (zz v) hz (W2 hv.1 h1) hl hm) (fun n l=>some (.arr 1 0 n 1,[.dead,.arr l]))).trans rfl
def lR {l:LD}(s:LN)(hz:z=l.length)(hl:l.length+s.length<999999900)(hm:13<=m):Ω m 120 [.arr 0 0 z 1,pS s] [.arr l]=aB (l++bD (lP s)):=by
 replace hm:=fuel hm;obtain⟨m,rfl,hm⟩:=hm;apply CE m z l s;unfold qN;rw[show ab .u64 (s.length:Int)=(s.length:Int) by rw[mU];omega];refine(vz (i:=0) (z:=0) (hU s.length hz (by omega) (by omega) hm) (fun n3 l8=>iL (Nat.beq n3 (List.length l8)) (iL (cI (List.length l8+List.length (List.map (fun b=>Da.int .u8 (Int.ofNat b)) s)) 1) (some ((.arr 1 0 (List.length (l8++List.map (fun b=>Da.int .u8 (Int.ofNat b)) s)) 1),[.dead,(.arr (l8++List.map (fun b=>Da.int .u8 (Int.ofNat b)) s))])) none) none)).trans ?_
 have h1:=ck s.length;rw[Nat.beq_refl,aN,dz (by rw[lε,bU,lα];omega) (by decide),aN];show aB (l++bD (fU s.length)++bD s)=_;rw[lρ,<-fB];rfl
def Oi (l:LD):splice (List.replicate l.length (Da.int .u8 0)) 0 l=l:=by
 unfold splice;simp
def Ď {v:Int}(hv:0<=v)(hl:(z:Int)+v<1000000000):(aV 0 ↑z&&aV (↑z) (ab .i64 (↑z+v))&&Nat.ble (Int.toNat (ab .i64 (↑z+v))*1) 281474976710656&&aV (ab .i64 (↑z+v)) 9223372036854775807)=true:=by
 rw[cV (by omega) (by omega)];simp only[lγ,bk,lδ,Nat.ble_eq];omega
def ot (l:LD)(v:Int)(hv:0<=v)(hl:(l.length:Int)+v<1000000000)(hm:1<=m):Ω m 118 [pL 1 l,pI v] []=some (.arr 0 0 l.length 1,[.arr l]):=by
 replace hm:=fuel hm;obtain⟨m,rfl,hm⟩:=hm;apply Pt m l v;unfold A2;rw[Ď hv hl,aN];simp only[Int.toNat_natCast,List.take_length,Oi];cases l<;>rfl
def wP (l:LD)(v:Int)(hz:z=l.length)(hv:0<=v)(hl:(l.length:Int)+v<1000000000)(hm:1<=m):Ω m 118 [.arr 0 0 z 1,pI v] [.arr l]=some (.arr 1 0 l.length 1,[.arr l,.arr l]):=by
 subst hz;replace hm:=fuel hm;obtain⟨m,rfl,hm⟩:=hm;apply Km m l.length l v;unfold xb;rw[Ď hv hl,aN];simp only[Int.toNat_natCast,List.drop_zero,List.take_length,Oi];cases l<;>rfl
variable {f:Nat} {vs:List D}
def Nw {n:Nat}{hp:List Ob}{tab}{l:LD}(h:evFn tab n f vs hp=some (.arr 0 0 l.length 1,[.arr l]))(K:Nat->LD->R):(cq tab n f vs hp fun d o=>cf 0 1 d fun n=>aa o fun u o'=>bL u fun l=>ag o'<|K n l)=K l.length l:=by
 rw[ae h];simp only[abF];rfl
def Vl {n:Nat}{hp:List Ob}{tab}{l a:LD}(h:evFn tab n f vs hp=some (.arr 1 0 l.length 1,[.arr a,.arr l]))(K:Nat->LD->LD->R):(cq tab n f vs hp fun d o=>cf 1 1 d fun n=>aa o fun u o'=>bL u fun a=>aa o' fun u o'=>bL u fun l=>ag o'<|K n a l)=K l.length a l:=by
 rw[ae h];simp only[abF];rfl
def rB (l:LD):R:=some (pL 1 l,[])
def gb (l:LD):List.take l.length (List.drop 0 l)=l:=by rw[List.drop_zero,List.take_length]
def zu (b:LD)(v:Nat)(hv:v<18446744073709551616)(hl:b.length<999999900)(hm:20<=m):Ω m 116 [pL 1 b,.p (.int .u64 (v:Int))] []=rB (b++bD (fU v)):=by
 replace hm:=fuel hm;obtain⟨m,rfl,hm⟩:=hm;apply zD m b v;unfold ph;refine(Nw (ot b 10 (by decide) (by omega) (m:=m) (by omega)) _).trans ?_;refine(vz (i:=0) (z:=0) (hU v rfl hv hl (m:=m) (by omega)) (fun n l=>some (pL 1 (List.take n (List.drop 0 l)),[]))).trans ?_
 exact congrArg rB (gb _)
def vw (b:LD)(s:LN)(hl:b.length+s.length<999999900)(hm:20<=m):Ω m 117 [pL 1 b,pS s] []=rB (b++bD (lP s)):=by
 replace hm:=fuel hm;obtain⟨m,rfl,hm⟩:=hm;apply vy m b s;unfold mW;rw[cV (by omega) (by omega)];refine(Nw (ot b ((s.length:Int)+10) (by omega) (by omega) (m:=m) (by omega)) _).trans ?_;refine(vz (i:=0) (z:=0) (lR s rfl hl (m:=m) (by omega)) (fun n l=>some (pL 1 (List.take n (List.drop 0 l)),[]))).trans ?_
 exact congrArg rB (gb _)
def ny {α:Type}(xs:List α)(f:α->LN)(c B:Nat)(L:Nat->Int->LD->R)(gu:LD->R)(hf:∀x∈xs,(f x).length<=c)(hs:∀q i (h:i<xs.length) l,l.length+c<=B->L (q+1) (i:Int) l=L q ((i+1:Nat):Int) (l++bD (f xs[i])))(he:∀q l,l.length<=B->L (q+1) (xs.length:Int) l=gu l):∀(d q i:Nat) (l:LD),i+d=xs.length->d<q->l.length+c*d<=B->L q (i:Int) l=gu (l++bD ((xs.drop i).flatMap f))
 |0,q+1,i,l,h,_,hl=>by
  obtain rfl:i=xs.length:=by omega
  rw[he q l (by omega),List.drop_length,List.flatMap_nil,show bD []=[]from rfl,mη]
 |d+1,q+1,i,l,h,hq,hl=>by
  have hi:i<xs.length:=by omega
  rw[Nat.mul_succ]at hl;have h1:=hf _ (lμ hi);rw[hs q i hi l (by omega),ny xs f c B L gu hf hs he d q (i+1) _ (by omega) (by omega) (by rw[lε,bU];omega),mμ hi,List.flatMap_cons,fB,lρ]
def kQ {α:Type}(f:α->LN)(c:Nat):∀(l:List α),(∀x∈l,(f x).length<=c)->(l.flatMap f).length<=c*l.length
 |[],_=>Nat.zero_le _
 |x::r,h=>by
  rw[List.flatMap_cons,lε,List.length_cons,Nat.mul_succ];have h1:=h x lχ;have h2:=kQ f c r fun y hy=>h y (mα _ hy)
  omega
def D9 (i:Int):(fU (zz i)).length<=10:=ck _
def jB (s:LN):(lP s).length<=10+s.length:=by
 have:=ck s.length;unfold lP;rw[lε];omega
def n5 (l:LI):(gZ l).length<=10+10*l.length:=by
 have h1:=ck l.length;have h2:=kQ (fun i=>fU (zz i)) 10 l fun i _=>D9 i
 unfold gZ;rw[lε];omega
def Wp {l:List LN}{c:Nat}(h:∀s∈l,s.length<=c):(mN l).length<=10+(10+c)*l.length:=by
 have h1:=ck l.length;have h2:=kQ lP (10+c) l fun s hs=>by have:=jB s;have:=h s hs;omega
 unfold mN;rw[lε];omega
def pf (b:LD)(xs:LI)(hx:∀x∈xs,kg x)(hn:xs.length<1501)(hl:b.length<999900000)(hm:1600<=m):Ω m 121 [pL 1 b,pL 1 (xs.map iE)] []=rB (b++bD (gZ xs)):=by
 replace hm:=fuel hm;obtain⟨m,rfl,hm⟩:=hm;apply zC m b (xs.map iE);unfold pg;have h1:=ck xs.length;rw[lα,cV (n:=2*(xs.length:Int)) (by omega) (by omega),cV (by omega) (by omega),show ab .u64 (xs.length:Int)=(xs.length:Int) by rw[mU];omega];refine(Nw (ot b (10+2*(xs.length:Int)) (by omega) (by omega) (m:=m) (by omega)) _).trans ?_;refine(vz (i:=0) (z:=0) (hU xs.length rfl (by omega) (by omega) (m:=m) (by omega)) (fun n9 l14=>itL (dj (cq lay0.tab m) m (fun(n30,l31,i32,i33,l34)=>some ((pL 1 (List.take n30 (List.drop 0 l34))),[]))) m (n9,xs.map iE,(xs.length:Int),0,l14))).trans ?_
 refine(ny xs (fun i=>fU (zz i)) 10 999990000 (fun q i l=>itL (dj (cq lay0.tab m) m (fun(n30,l31,i32,i33,l34)=>some ((pL 1 (List.take n30 (List.drop 0 l34))),[]))) q (l.length,xs.map iE,(xs.length:Int),i,l)) rB (fun i _=>D9 i) (fun q i hi l hl=>?_) (fun q l _=>?_) xs.length m 0 _ (by omega) (by omega) (by rw[lε,bU];omega)).trans ?_
 ·rw[aQ];simp only[dj,fp (show((i:Int)<(xs.length:Int)) by omega),aN,aU,be,bh hi,bw,dI,wS (show i<c9 by unfold c9;omega)];exact vz (i:=0) (z:=0) (sS xs[i] rfl (hx _ (lμ hi)) (by omega) (m:=m) (by omega)) (fun n l=>itL (dj (cq lay0.tab m) m (fun(n30,l31,i32,i33,l34)=>some ((pL 1 (List.take n30 (List.drop 0 l34))),[]))) q (n,xs.map iE,(xs.length:Int),((i+1:Nat):Int),l))
 ·rw[aQ];simp only[dj,c8,aX];exact congrArg rB (gb _)
 ·rw[List.drop_zero,lρ,<-fB];rfl
def wN (b:LD)(xs:LI)(hz:z=b.length)(hx:∀x∈xs,kg x)(hn:xs.length<1501)(hl:b.length<999900000)(hm:1600<=m):Ω m 121 [.arr 0 0 z 1,pL 1 (xs.map iE)] [.arr b]=some (pL 1 (b++bD (gZ xs)),[.arr b]):=by
 replace hm:=fuel hm;obtain⟨m,rfl,hm⟩:=hm;apply xy m z b (xs.map iE);unfold ng;have h1:=ck xs.length;rw[lα,cV (n:=2*(xs.length:Int)) (by omega) (by omega),cV (by omega) (by omega),show ab .u64 (xs.length:Int)=(xs.length:Int) by rw[mU];omega];refine(Vl (wP b (10+2*(xs.length:Int)) hz (by omega) (by omega) (m:=m) (by omega)) _).trans ?_;refine(vz (i:=0) (z:=0) (hU xs.length rfl (by omega) (by omega) (m:=m) (by omega)) (fun n9 l14=>itL (cW (cq lay0.tab m) m (fun(n34,l35,i36,i37,l38,l39)=>some ((pL 1 (List.take n34 (List.drop 0 l39))),[(.arr l38)]))) m (n9,xs.map iE,(xs.length:Int),0,b,l14))).trans ?_
 refine(ny xs (fun i=>fU (zz i)) 10 999990000 (fun q i l=>itL (cW (cq lay0.tab m) m (fun(n34,l35,i36,i37,l38,l39)=>some ((pL 1 (List.take n34 (List.drop 0 l39))),[(.arr l38)]))) q (l.length,xs.map iE,(xs.length:Int),i,b,l)) (fun l=>some (pL 1 l,[.arr b])) (fun i _=>D9 i) (fun q i hi l hl=>?_) (fun q l _=>?_) xs.length m 0 _ (by omega) (by omega) (by rw[lε,bU];omega)).trans ?_
 ·rw[aQ];simp only[cW,fp (show((i:Int)<(xs.length:Int)) by omega),aN,aU,be,bh hi,bw,dI,wS (show i<c9 by unfold c9;omega)];exact vz (i:=0) (z:=0) (sS xs[i] rfl (hx _ (lμ hi)) (by omega) (m:=m) (by omega)) (fun n l=>itL (cW (cq lay0.tab m) m (fun(n34,l35,i36,i37,l38,l39)=>some ((pL 1 (List.take n34 (List.drop 0 l39))),[(.arr l38)]))) q (n,xs.map iE,(xs.length:Int),((i+1:Nat):Int),b,l))
 ·rw[aQ];simp only[cW,c8,aX];exact congrArg (fun l=>some (D.p (.slice 1 l),[Ob.arr b])) (gb _)
 ·rw[List.drop_zero,lρ,<-fB];rfl
def qJ (b:LD)(xs:List LN)(hz:z=b.length)(hx:∀x∈xs,x.length<=64)(hn:xs.length<1501)(hl:b.length<999000000)(hm:1600<=m):Ω m 122 [.arr 0 0 z 1,pL 1 (xs.map .str)] [.arr b]=some (pL 1 (b++bD (mN xs)),[.arr b]):=by
 replace hm:=fuel hm;obtain⟨m,rfl,hm⟩:=hm;apply qR m z b (xs.map .str);unfold km;have h1:=ck xs.length;rw[lα,cV (n:=10*(xs.length:Int)) (by omega) (by omega),cV (by omega) (by omega),show ab .u64 (xs.length:Int)=(xs.length:Int) by rw[mU];omega];refine(Vl (wP b (10+10*(xs.length:Int)) hz (by omega) (by omega) (m:=m) (by omega)) _).trans ?_;refine(vz (i:=0) (z:=0) (hU xs.length rfl (by omega) (by omega) (m:=m) (by omega)) (fun n9 l14=>itL (cn (cq lay0.tab m) m (fun(n34,l35,i36,i37,l38,l39)=>some ((pL 1 (List.take n34 (List.drop 0 l39))),[(.arr l38)]))) m (n9,xs.map .str,(xs.length:Int),0,b,l14))).trans ?_
 refine(ny xs lP 74 999990000 (fun q i l=>itL (cn (cq lay0.tab m) m (fun(n34,l35,i36,i37,l38,l39)=>some ((pL 1 (List.take n34 (List.drop 0 l39))),[(.arr l38)]))) q (l.length,xs.map .str,(xs.length:Int),i,b,l)) (fun l=>some (pL 1 l,[.arr b])) (fun s hs=>by have:=jB s;have:=hx s hs;omega) (fun q i hi l hl=>?_) (fun q l _=>?_) xs.length m 0 _ (by omega) (by omega) (by rw[lε,bU];omega)).trans ?_
 ·have hs:=hx _ (lμ hi);rw[aQ];simp only[cn,fp (show((i:Int)<(xs.length:Int)) by omega),aN,aU,be,bh hi,bw,tv,wS (show i<c9 by unfold c9;omega)];exact vz (i:=0) (z:=0) (lR xs[i] rfl (by omega) (m:=m) (by omega)) (fun n l=>itL (cn (cq lay0.tab m) m (fun(n34,l35,i36,i37,l38,l39)=>some ((pL 1 (List.take n34 (List.drop 0 l39))),[(.arr l38)]))) q (n,xs.map .str,(xs.length:Int),((i+1:Nat):Int),b,l))
 ·rw[aQ];simp only[cn,c8,aX];exact congrArg (fun l=>some (D.p (.slice 1 l),[Ob.arr b])) (gb _)
 ·rw[List.drop_zero,lρ,<-fB];rfl
def uJ (v:Va):LN:=(bif az v.k 1 then fU (zz v.n)else bif az v.k 2 then[v.n.toNat]else bif az v.k 3 then lP v.s else bif az v.k 4 then gZ v.I else bif az v.k 5 then mN v.L else[])
def Af (v:Va):LN:=v.k.toNat::uJ v
structure VaO (v:Va):Prop where
 k:0<=v.k/\v.k<=5
 n:v.k≠1->v.n=0\/v.k=2/\v.n=1
 s:v.k≠3->v.s=[]
 i:v.k≠4->v.I=[]
 l:v.k≠5->v.L=[]
 sn:v.s.length<=64
 i_n:v.I.length<=16
 ln:v.L.length<=16
 le:∀s∈v.L,s.length<=64
def Cc {v:Va}(h:kj v=true):VaO v:=by
 unfold kj xJ xK GD uy lf at h;simp only[lγ,Bool.not_eq_true',qγ,Bool.and_eq_false_iff,Bool.not_eq_false',mπ,bT,bp,hM,lδ,lζ,mζ]at h;obtain⟨⟨h1,h2⟩,h3,⟨h4,h5,h6⟩,⟨h7,h8,h9⟩,h10⟩:=h;refine⟨by omega,fun e=>?_,fun e=>?_,fun e=>?_,fun e=>?_,by omega,by omega,by omega,fun s hs=>by have:=h10 s hs;omega⟩
 ·rcases h3 with h3|h3|h3
  ·exact .inl h3
  ·exact absurd h3 e
  ·exact .inr h3
 ·exact h4.resolve_right e
 ·exact List.length_eq_zero_iff.1 (by have:=h5.resolve_right e;omega)
 ·exact List.length_eq_zero_iff.1 (by have:=h6.resolve_right e;omega)
def Ea {v:Va}(h:VaO v):(Af v).length<=1300:=by
 have h1:=ck (zz v.n);have h2:=jB v.s;have h3:=n5 v.I;have h4:=Wp h.le;have h5:=h.sn;have h6:=h.i_n;have h7:=h.ln;unfold Af uJ;cases az v.k 1<;>cases az v.k 2<;>cases az v.k 3<;>cases az v.k 4<;>cases az v.k 5<;>simp only[cond_true,cond_false,List.length_cons,List.length_nil]<;>omega
def ü {n:Nat}{hp:List Ob}{tab}{l a:LD}(h:evFn tab n f vs hp=some (pL 1 l,[.arr a]))(K:LD->LD->R):(cq tab n f vs hp fun d o=>dP d fun x=>cR 1 x fun l=>aa o fun u o'=>bL u fun a=>ag o'<|K l a)=K l a:=by
 rw[ae h,ba,mX];rfl
def nf (b:LD)(v:Va)(hv:kj v=true)(hi:FZ v)(hl:b.length<998000000)(hm:1700<=m):Ω m 69 [pL 1 b,.p v.e] []=rB (b++bD (Af v)):=by
 obtain⟨k,rfl⟩:=uD hm;apply xz (k+1699) b v.r;have ho:=Cc hv;have h1:=ae (qK (n:=k+196) v);simp only[Va.c]at h1;unfold nh;refine(h1 _).trans ?_;rw[ba,aL,aC,hv,aN];refine(Nw (ot b 16 (by decide) (by omega) (m:=k+1699) (by omega)) _).trans ?_;have hk:ab .u8 v.r.Kind=((v.k.toNat:Nat):Int):=by
  have:=ho.k;show ab .u8 v.k=_;rw[show v.k=((v.k.toNat:Nat):Int) by omega,WX (by omega)];rfl
 have hb:(b++[Da.int .u8 (ab .u8 v.r.Kind)])=b++bD [v.k.toNat]:=by rw[hk];rfl
 rw[Nat.beq_refl,aN,dz (by simp only[List.length_cons,List.length_nil];omega) (by decide),aN,hb];have hln:(b++bD [v.k.toNat]).length<999000000:=by rw[lε,bU];simp only[List.length_cons,List.length_nil];omega
 have gu:∀r,uJ v=r->rB (b++bD [v.k.toNat]++bD r)=rB (b++bD (Af v)):=fun r hr=>by rw[lρ,<-fB,<-hr];rfl
 show iL (az v.k 1) _ (iL (az v.k 2) _ (iL (az v.k 3) _ (iL (az v.k 4) _ (iL (az v.k 5) _ _))))=_;cases e1:az v.k 1 with
 |true=>
  rw[aN];refine(vz (i:=0) (z:=0) (sS v.n rfl hi.1 (by omega) (m:=k+1699) (by omega)) (fun n l=>some (pL 1 (List.take n (List.drop 0 l)),[]))).trans ?_
  rw[gb];exact gu _ (by unfold uJ;simp only[e1,cond_true,cond_false])
 |false=>
 rw[aX];cases e2:az v.k 2 with
 |true=>
  have hn:0<=v.n/\v.n<=1:=by rw[bp,lζ]at e1;rcases ho.n e1 with h|h<;>omega
  rw[aN,Nat.beq_refl,aN,dz (by simp only[List.length_cons,List.length_nil];omega) (by decide),aN];have hn2:ab .u8 v.r.N=((v.n.toNat:Nat):Int):=by
   show ab .u8 v.n=_;rw[show v.n=((v.n.toNat:Nat):Int) by omega,WX (by omega)];rfl
  rw[hn2,gb];exact gu [v.n.toNat] (by unfold uJ;simp only[e1,e2,cond_true,cond_false])
 |false=>
 rw[aX];cases e3:az v.k 3 with
 |true=>
  rw[aN];have:=ho.sn;refine(vz (i:=0) (z:=0) (lR v.s rfl (by omega) (m:=k+1699) (by omega)) (fun n l=>some (pL 1 (List.take n (List.drop 0 l)),[]))).trans ?_
  rw[gb];exact gu _ (by unfold uJ;simp only[e1,e2,e3,cond_true,cond_false])
 |false=>
 rw[aX];cases e4:az v.k 4 with
 |true=>
  rw[aN];have:=ho.i_n;refine(ü (wN _ v.I rfl hi.2 (by omega) (by omega) (m:=k+1699) (by omega)) (fun l a=>some (pL 1 l,[]))).trans ?_;exact gu _ (by unfold uJ;simp only[e1,e2,e3,e4,cond_true,cond_false])
 |false=>
 rw[aX];cases e5:az v.k 5 with
 |true=>
  rw[aN];have:=ho.ln;refine(ü (qJ _ v.L rfl ho.le (by omega) (by omega) (m:=k+1699) (by omega)) (fun l a=>some (pL 1 l,[]))).trans ?_;exact gu _ (by unfold uJ;simp only[e1,e2,e3,e4,e5,cond_true,cond_false])
 |false=>
  rw[aX,gb];have:=gu [] (by unfold uJ;simp only[e1,e2,e3,e4,e5,cond_true,cond_false]);rw[show bD []=[]from rfl,mη]at this;exact this
def By (s:LN):Prop:=∀x∈s,x<256
structure Ms (v:Va):Prop where
 s:By v.s
 l:∀s∈v.L,By s
 i:FZ v
structure ByT (t:Ct):Prop where
 n:By t.name
 f:∀f∈t.fields,By f.name/\Ms f.init
 m:∀m∈t.methods,By m.name/\∀y∈m.code,Ms y.v
def ByC (c:List Ct):Prop:=∀t∈c,ByT t
structure r_ (x:Cd):Prop where
 o:1<=x.op/\x.op<=36
 a:0<=x.a/\x.a<2000
 b:0<=x.b/\x.b<2000
 v:x.op=1->kj x.v=true
 z:x.op≠1->x.v=v0
 y:Ms x.v
structure b_ (m:Cm):Prop where
 n:By m.name/\m.name.length<=32
 p:m.params.length<=4/\∀i∈m.params,kg i
 l:m.locals.length<=8/\∀i∈m.locals,kg i
 r:0<=m.res/\m.res<=5
 c:m.code.length<1501/\∀x∈m.code,r_ x
structure FeO (f:Fe):Prop where
 n:By f.name/\f.name.length<=32
 k:0<=f.kind/\f.kind<=5
 v:kj f.init=true/\Ms f.init
structure CtO (t:Ct):Prop where
 n:By t.name/\t.name.length<=32
 f:t.fields.length<=8/\∀f∈t.fields,FeO f
 m:t.methods.length<=16/\∀m∈t.methods,b_ m
structure q_ (c:List Ct):Prop where
 n:c.length<=8
 t:∀t∈c,CtO t
def É {s:LN}(h:nX s=true):s.length<=32:=by
 unfold nX at h;simp only[lγ,bk,lδ]at h;omega
def CY:∀{ss seen:List LN},qc seen ss=true->∀s∈ss,s.length<=32
 |[],_,_,_,h=>by cases h
 |s::r,seen,h,x,hx=>by
  unfold qc at h;rw[lγ,lγ]at h;rcases mγ.1 hx with rfl|hx
  ·exact É h.1
  ·exact CY h.2.2 x hx
def sI {a:Int}{n:Nat}(h:fT a n=true)(hn:n<2000):0<=a/\a<2000:=by
 unfold fT at h;simp only[lγ,bk,bT,lδ]at h;omega
variable {α:Type}
def D_ {l:List α}{i:Int}(h:(dK l i).isSome=true)(hn:l.length<2000):0<=i/\i<2000:=by
 rw[<-EJ]at h;exact sI h hn
def aai {c:List Ct}{t:Ct}{m:Cm}{x:Cd}(h:gY c t m x=true)(hl:m.locals.length<2000)(hf:t.fields.length<2000)(hco:m.code.length<2000)(hc:c.length<2000)(hm:∀t∈c,t.methods.length<2000)(hy:Ms x.v):r_ x:=by
 unfold gY at h;simp only[lγ]at h;obtain⟨⟨h1,⟨h2,h3⟩,h4⟩,h5,h6⟩:=h;simp only[Bool.not_eq_true',bT,lζ]at h1 h2;have hv:x.op=1->kj x.v=true:=fun e=>by
  rw[e]at h6;change (kj x.v&&!az x.v.k 0)=true at h6;rw[lγ]at h6;exact h6.1
 have hz:x.op≠1->x.v=v0:=fun e=>by
  rw[mπ,bp,lδ]at h5;have h5:=h5.resolve_left e;unfold eZ v0 at h5;simp only[lγ,bp,hM,lδ]at h5;obtain⟨e1,e2,e3,e4,e5⟩:=h5;obtain⟨o,a,b,⟨k,n,sv,I,L⟩⟩:=x;simp only at e1 e2 e3 e4 e5;subst e1 e2 e3 e4 e5;rfl
 have hb:0<=x.b/\x.b<2000:=by
  rw[mπ,bp,bp,lδ,lδ]at h4;rcases h4 with e|e
  ·rw[e]at h6;change (fC c x.a x.b).isSome=true at h6;unfold fC at h6;cases ha:dK c x.a with
   |none=>rw[ha]at h6;cases h6
   |some u=>
    rw[ha]at h6;have hu:u∈c:=by
     unfold dK at ha;split at ha
     ·exact mθ ha
     ·cases ha
    exact D_ (l:=u.methods) h6 (hm u hu)
  ·omega
 have ha:0<=x.a/\x.a<2000:=by
  rw[mπ,bp,lδ]at h3;rcases h3 with hu|e
  ·unfold Ϻ at hu;simp only[mπ,lγ,bk,bp,lδ]at hu;have:x.op=2\/x.op=3\/x.op=4\/x.op=5\/x.op=26\/x.op=27\/x.op=28\/x.op=29\/x.op=30:=by omega
   rcases this with e|e|e|e|e|e|e|e|e<;>rw[e]at h6
   ·exact sI h6 hl
   ·exact sI h6 hl
   ·exact sI h6 hf
   ·exact sI h6 hf
   ·exact sI (n:=17) h6 (by decide)
   ·exact sI (n:=17) h6 (by decide)
   ·exact sI h6 hco
   ·exact sI h6 hco
   ·change (fC c x.a x.b).isSome=true at h6
    unfold fC at h6;refine D_ (l:=c) ?_ hc;cases ha:dK c x.a with
    |none=>rw[ha]at h6;cases h6
    |some u=>rfl
  ·omega
 exact⟨by omega,ha,hb,hv,hz,hy⟩
def K6 {k:Int}(h:gN k=true):0<=k/\k<=5:=by
 unfold gN at h;simp only[lγ,bk,lδ]at h;omega
def NK {k:Int}(h:gN k=true):kg k:=by have:=K6 h;exact⟨by omega,by omega⟩
def aaf {c:List Ct}(hc:zB c)(hy:ByC c)(h:vB c=true):q_ c:=by
 have hm:=rr h;unfold vB at h;simp only[lγ,Bool.not_eq_true',bT,lζ,mζ]at h;obtain⟨h1,h2,h3,-⟩:=h;have hT:∀t∈c,t.fields.length<=8/\t.methods.length<=16/\(∀s∈t.fields.map l_,s.length<=32)/\(∀s∈t.methods.map m_,s.length<=32)/\∀f∈t.fields,zL f=true:=fun t ht=>by
  have:=h3 t ht;unfold vH at this;simp only[lγ,Bool.not_eq_true',bT,lζ,mζ]at this;obtain⟨a1,a2,a3,a4,a5⟩:=this;exact⟨by omega,by omega,CY a3,CY a4,a5⟩
 refine⟨by omega,fun t ht=>?_⟩
 obtain⟨a1,a2,a3,a4,a5⟩:=hT t ht;have yt:=hy t ht;refine⟨⟨yt.n,CY h2 _ (List.mem_map_of_mem ht)⟩,⟨a1,fun f hf=>?_⟩,⟨a2,fun m hmm=>?_⟩⟩
 ·have:=a5 f hf;unfold zL at this;simp only[lγ]at this;exact⟨⟨(yt.f f hf).1,a3 _ (List.mem_map_of_mem hf)⟩,K6 this.1,this.2.2,(yt.f f hf).2⟩
 ·have h4:=hm t ht m hmm;unfold vC at h4;simp only[lγ,mπ,Bool.not_eq_true',bT,bp,lδ,lζ,mζ]at h4;obtain⟨b1,b2,b3,b4,b5,b6,-,-,b9⟩:=h4;have sz:=(hc.s t ht).s m hmm;refine⟨⟨(yt.m m hmm).1,a4 _ (List.mem_map_of_mem hmm)⟩,⟨by omega,fun i hi=>NK (b2 i hi)⟩,⟨by omega,fun i hi=>NK (b5 i hi)⟩,?_,sz.c,fun x hx=>?_⟩
  ·rcases b3 with b3|b3
   ·omega
   ·exact K6 b3
  ·exact aai (b9 x hx) (by omega) (by omega) (by have:=sz.c;omega) (by omega) (fun u hu=>by have:=(hT u hu).2.1;omega) ((yt.m m hmm).2 x hx)
def zK (x:Cd):LN:=fU x.op.toNat++(fU x.a.toNat++(fU x.b.toNat++bif az x.op 1 then Af x.v else[]))
def oY (m:Cm):LN:=lP m.name++(gZ m.params++(gZ m.locals++(fU m.res.toNat++(fU m.code.length++m.code.flatMap zK))))
def xY (f:Fe):LN:=lP f.name++(fU f.kind.toNat++Af f.init)
def rg (t:Ct):LN:=lP t.name++(fU t.fields.length++(t.fields.flatMap xY++(fU t.methods.length++t.methods.flatMap oY)))
def C1 (c:List Ct):LN:=fU c.length++c.flatMap rg
def GW {x:Cd}(h:r_ x):(zK x).length<=1330:=by
 have h1:=ck x.op.toNat;have h2:=ck x.a.toNat;have h3:=ck x.b.toNat;unfold zK;simp only[lε];cases he:az x.op 1 with
 |true=>
  rw[bp,lδ]at he;have:=Ea (Cc (h.v he));rw[cond_true];omega
 |false=>rw[cond_false,List.length_nil];omega
def GX {m:Cm}(h:b_ m):(oY m).length<=2000000:=by
 have h1:=jB m.name;have h2:=n5 m.params;have h3:=n5 m.locals;have h4:=ck m.res.toNat;have h5:=ck m.code.length;have h6:=kQ zK 1330 m.code fun x hx=>GW (h.c.2 x hx)
 have h7:=h.n.2;have h8:=h.p.1;have h9:=h.l.1;have h10:=h.c.1;unfold oY;simp only[lε];omega
def xZ {f:Fe}(h:FeO f):(xY f).length<=1400:=by
 have h1:=jB f.name;have h2:=ck f.kind.toNat;have h3:=Ea (Cc h.v.1);have h4:=h.n.2;unfold xY;simp only[lε];omega
def GY {t:Ct}(h:CtO t):(rg t).length<=33000000:=by
 have h1:=jB t.name;have h2:=ck t.fields.length;have h3:=ck t.methods.length;have h4:=kQ xY 1400 t.fields fun x hx=>xZ (h.f.2 x hx)
 have h5:=kQ oY 2000000 t.methods fun x hx=>GX (h.m.2 x hx)
 have h6:=h.n.2;have h7:=h.f.1;have h8:=h.m.1;unfold rg;simp only[lε];omega
def Vb {c:List Ct}(h:q_ c):(C1 c).length<=300000000:=by
 have h1:=ck c.length;have h2:=kQ rg 33000000 c fun x hx=>GY (h.t x hx)
 have h3:=h.n;unfold C1;simp only[lε];omega
def wB (l:LD):R:=some (.tup [],[.box [pL 1 l]])
def LS {n:Nat}{hp:List Ob}{tab}{l:LD}(h:evFn tab n f vs hp=rB l)(K:LD->R):(cq tab n f vs hp fun d o=>dP d fun x=>cR 1 x fun l=>ag o<|K l)=K l:=by
 rw[ae h,ba,mX,aC]
def uh {n:Nat}{hp:List Ob}{tab}{l:LD}(h:evFn tab n f vs hp=wB l)(K:LD->R):(cq tab n f vs hp fun d o=>bQ d fun r=>ag r<|aa o fun u o'=>dO u fun r=>aa r fun d r'=>dP d fun x=>cR 1 x fun l=>ag r'<|ag o'<|K l)=K l:=by
 rw[ae h];show cR 1 (.slice 1 l) (fun l=>K l)=K l;rw[mX]
def eN (b:LD)(v:Int)(hv:0<=v/\v<9223372036854775808)(hl:b.length<999999900)(hm:30<=m):Ω m 67 [.box 0 0,pI v] [.box [pL 1 b]]=wB (b++bD (fU v.toNat)):=by
 replace hm:=fuel hm;obtain⟨m,rfl,hm⟩:=hm;apply Kc m b v;unfold wX;rw[show ab .u64 v=((v.toNat:Nat):Int) by rw[mU];omega];exact LS (zu b v.toNat (by omega) hl (m:=m) (by omega)) _
def wJ (b:LD)(s:LN)(hl:b.length+s.length<999999900)(hm:30<=m):Ω m 68 [.box 0 0,pS s] [.box [pL 1 b]]=wB (b++bD (lP s)):=by
 replace hm:=fuel hm;obtain⟨m,rfl,hm⟩:=hm;apply SR m b s;unfold Fc;exact LS (vw b s hl (m:=m) (by omega)) _
def aaX (b:LD)(x y:LN):b++bD x++bD y=b++bD (x++y):=by rw[lρ,<-fB]
def Ju (b:LD)(x:Cm)(h:b_ x)(hl:b.length<900000000)(hm:2000<=m):Ω m 70 [.box 0 0,.p x.e] [.box [pL 1 b]]=wB (b++bD (oY x)):=by
 replace hm:=fuel hm;obtain⟨m,rfl,hm⟩:=hm;apply Kb m b x.r;unfold wW;have hp:=h.p.1;have hq:=h.l.1;have hc:=h.c.1;have hr:=h.r;have hn:=h.n.2;have l1:=jB x.name;have l2:=n5 x.params;have l3:=n5 x.locals;have l4:=ck x.res.toNat;have l5:=ck x.code.length;refine(uh (wJ b x.name (by omega) (m:=m) (by omega)) _).trans ?_;refine(LS (pf _ x.params h.p.2 (by omega) (by rw[lε,bU];omega) (m:=m) (by omega)) _).trans ?_;refine(LS (pf _ x.locals h.l.2 (by omega) (by simp only[lε,bU];omega) (m:=m) (by omega)) _).trans ?_;refine(uh (eN _ x.res (by omega) (by simp only[lε,bU];omega) (m:=m) (by omega)) _).trans ?_;rw[show(x.r.Code).length=x.code.length from lα ..];refine(uh (eN _ (x.code.length:Int) (by omega) (by simp only[lε,bU];omega) (m:=m) (by omega)) _).trans ?_;refine(ny x.code zK 1330 950000000 (fun q i l=>itL (gx (cq lay0.tab m) m (fun(l79,i80,i81,l82)=>some ((.tup []),[(.box [(pL 1 l82)])]))) q (x.code.map Cd.e,(x.code.length:Int),i,l)) wB (fun y hy=>GW (h.c.2 y hy)) (fun q i hi l hl=>?_) (fun q l _=>?_) x.code.length m 0 _ (by omega) (by omega) (by simp only[lε,bU,Int.toNat_natCast];omega)).trans ?_
 ·have hx:=h.c.2 _ (lμ hi);have h1:=hx.o;have h2:=hx.a;have h3:=hx.b;have g1:=ck x.code[i].op.toNat;have g2:=ck x.code[i].a.toNat;have g3:=ck x.code[i].b.toNat;rw[aQ];simp only[gx,fp (show((i:Int)<(x.code.length:Int)) by omega),aN,aU,be,bh hi,bw,W6,wS (show i<c9 by unfold c9;omega)];refine(uh (eN l x.code[i].op (by omega) (by omega) (m:=m) (by omega)) _).trans ?_;refine(uh (eN _ x.code[i].a (by omega) (by simp only[lε,bU];omega) (m:=m) (by omega)) _).trans ?_;refine(uh (eN _ x.code[i].b (by omega) (by simp only[lε,bU];omega) (m:=m) (by omega)) _).trans ?_;show iL (az x.code[i].op 1) _ _=_;unfold zK;cases he:az x.code[i].op 1 with
  |false=>rw[aX,cond_false,mη];simp only[fB,lρ]
  |true=>
   rw[bp,lδ]at he;rw[aN,cond_true];refine(LS (nf _ x.code[i].v (hx.v he) hx.y.i (by simp only[lε,bU];omega) (m:=m) (by omega)) _).trans ?_;simp only[fB,lρ]
 ·rw[aQ];simp only[gx,c8,aX];rfl
 ·rw[List.drop_zero,Int.toNat_natCast];unfold oY;simp only[fB,lρ];rfl
def Oz (c:List Ct)(hc:zB c)(hf:vB c=true)(ho:q_ c)(hm:4000<=m):Ω m 31 [.p (c4 c).e] []=rB (bD (C1 c)):=by
 replace hm:=fuel hm;obtain⟨m,rfl,hm⟩:=hm;apply O5 m (c4 c);unfold AF;have hn:=ho.n;have l0:=ck c.length;refine(ae (Cg c hc (m:=m) (by omega)) _).trans ?_;rw[ba,aL,aC,hf,aN];rw[show((c4 c).Types).length=c.length from lα ..];refine(uh (eN [] (c.length:Int) (by omega) (by simp only[List.length_nil];omega) (m:=m) (by omega)) _).trans ?_;refine(ny c rg 33000000 600000000 (fun q i l=>itL (fy (cq lay0.tab m) m (fun(l119,i120,i121,l122)=>some ((pL 1 l122),[]))) q (c.map Ct.e,(c.length:Int),i,l)) rB (fun y hy=>GY (ho.t y hy)) (fun q i hi l hl=>?_) (fun q l _=>?_) c.length m 0 _ (by omega) (by omega) (by simp only[lε,bU,List.length_nil,Int.toNat_natCast];omega)).trans ?_
 ·have ht:=ho.t _ (lμ hi);have hfl:=ht.f.1;have hml:=ht.m.1;have htn:=ht.n.2;have g1:=jB c[i].name;have g2:=ck c[i].fields.length;have g3:=ck c[i].methods.length;have g4:=kQ xY 1400 c[i].fields fun x hx=>xZ (ht.f.2 x hx)
  rw[aQ];simp only[fy,fp (show((i:Int)<(c.length:Int)) by omega),aN,aU,be,bh hi,bw,CU,wS (show i<c9 by unfold c9;omega)];refine(uh (wJ l c[i].name (by omega) (m:=m) (by omega)) _).trans ?_;rw[show(c[i].r.Fields).length=c[i].fields.length from lα ..];refine(uh (eN _ (c[i].fields.length:Int) (by omega) (by simp only[lε,bU];omega) (m:=m) (by omega)) _).trans ?_;refine(ny c[i].fields xY 1400 850000000 (fun q j l=>itL (iQ (cq lay0.tab m) m _) q (c.map Ct.e,(c.length:Int),(i:Int),c[i].fields.map Fe.e,(c[i].fields.length:Int),j,l,c[i].r)) (fun l=>itL (fy (cq lay0.tab m) m (fun(l119,i120,i121,l122)=>some ((pL 1 l122),[]))) q (c.map Ct.e,(c.length:Int),((i+1:Nat):Int),l++bD (fU c[i].methods.length++c[i].methods.flatMap oY))) (fun y hy=>xZ (ht.f.2 y hy)) (fun q j hj l hl=>?_) (fun q' l hl=>?_) c[i].fields.length m 0 _ (by omega) (by omega) (by simp only[lε,bU,Int.toNat_natCast];omega)).trans ?_
  ·have hfo:=ht.f.2 _ (lμ hj);have hfn:=hfo.n.2;have hfk:=hfo.k;have g5:=jB c[i].fields[j].name;have g6:=ck c[i].fields[j].kind.toNat;rw[aQ];simp only[iQ,fp (show((j:Int)<(c[i].fields.length:Int)) by omega),aN,aU,be,bh hj,bw,Ũ,wS (show j<c9 by unfold c9;omega)];refine(uh (wJ l c[i].fields[j].name (by omega) (m:=m) (by omega)) _).trans ?_;refine(uh (eN _ c[i].fields[j].kind (by omega) (by simp only[lε,bU];omega) (m:=m) (by omega)) _).trans ?_;refine(LS (nf _ c[i].fields[j].init hfo.v.1 hfo.v.2.i (by simp only[lε,bU];omega) (m:=m) (by omega)) _).trans ?_;unfold xY;simp only[fB,lρ]
  ·rw[aQ];simp only[iQ,c8,aX];rw[show(c[i].r.Methods).length=c[i].methods.length from lα ..];refine(uh (eN l (c[i].methods.length:Int) (by omega) (by omega) (m:=m) (by omega)) _).trans ?_;refine(ny c[i].methods oY 2000000 890000000 (fun q j l=>itL (iR (cq lay0.tab m) m _) q (c.map Ct.e,(c.length:Int),(i:Int),c[i].methods.map Cm.e,(c[i].methods.length:Int),j,l)) (fun l=>itL (fy (cq lay0.tab m) m (fun(l119,i120,i121,l122)=>some ((pL 1 l122),[]))) q (c.map Ct.e,(c.length:Int),((i+1:Nat):Int),l)) (fun y hy=>GX (ht.m.2 y hy)) (fun q j hj l hl=>?_) (fun q' l hl=>?_) c[i].methods.length m 0 _ (by omega) (by omega) (by simp only[lε,bU,Int.toNat_natCast];omega)).trans ?_
   ·have hmo:=ht.m.2 _ (lμ hj);rw[aQ];simp only[iR,fp (show((j:Int)<(c[i].methods.length:Int)) by omega),aN,aU,be,bh hj,bw,GP,wS (show j<c9 by unfold c9;omega)];exact uh (Ju l c[i].methods[j] hmo (by omega) (m:=m) (by omega)) _
   ·rw[aQ];simp only[iR,c8,aX];rw[wS (show i<c9 by unfold c9;omega)]
   ·rw[List.drop_zero,Int.toNat_natCast,aaX]
  ·rw[List.drop_zero,Int.toNat_natCast];unfold rg;simp only[fB,lρ]
 ·rw[aQ];simp only[fy,c8,aX];rfl
 ·rw[List.drop_zero,Int.toNat_natCast];unfold C1;simp only[fB,List.nil_append];rfl
def T6 {b:LN}{i:Nat}{c:Nat}(h:b[i]?=some c):bI (bD b) (i:Int)=some (Da.int .u8 (c:Int)):=by
 unfold bI bD;rw[bk,lκ (show(0:Int)<=(i:Int) by omega),cond_true,Int.toNat_natCast,lσ,h];rfl
def WS {cc:af}{n:Nat}(k0:Int×Int×Int->R)(k1 Y:jE->R){b:LN}{i c acc:Nat}(hi:i<=9)(hb:b[i]?=some c)(hc:c<256)(h9:i=9->c<=1)(h0:0<i->c≠0)(ha:acc<2 ^ (7*i))(hx:c % 128*2 ^ (7*i)+acc<18446744073709551616):lr cc n k0 k1 Y ((acc:Int),bD b,(b.length:Int),(i:Int))=iL (aK (c:Int) 128) (k0 (((c % 128*2 ^ (7*i)+acc:Nat):Int),((i+1:Nat):Int),0)) (Y (((c % 128*2 ^ (7*i)+acc:Nat):Int),bD b,(b.length:Int),((i+1:Nat):Int))):=by
 have hl:i<b.length:=(List.getElem?_eq_some_iff.1 hb).1;have e1:ab .i64 (7*(i:Int))=((7*i:Nat):Int):=by rw[cV (by omega) (by omega)];omega
 have e2:min (7*i) (IntKind.bits .u64)=7*i:=Nat.min_eq_left (show 7*i<=64 by omega);have e3:ab .u64 (ab .u64 ((c % 128:Nat):Int)*2 ^ (7*i))=((c % 128*2 ^ (7*i):Nat):Int):=by
  rw[mU ((c % 128:Nat):Int),Int.emod_eq_of_lt (by omega) (by omega),mU];rw[show(((c % 128:Nat):Int)*2 ^ (7*i))=((c % 128*2 ^ (7*i):Nat):Int) by push_cast;rfl];omega
 have e4:ab .u64 ((BitVec.ofInt (IntKind.bits .u64) (acc:Int) ||| BitVec.ofInt (IntKind.bits .u64) ((c % 128*2 ^ (7*i):Nat):Int)).toNat:Int)=((c % 128*2 ^ (7*i)+acc:Nat):Int):=by
  rw[abq (by omega) (by omega),ϣ ha]
 have e5:ab .i64 ((i:Int)+1)=((i+1:Nat):Int):=wS (by unfold c9;omega);simp only[lr,fp (show(i:Int)<(b.length:Int) by omega),aN,T6 hb,bw,bV,E_ hc,e1,Int.toNat_natCast,e2,e3,e4,e5,Ru (show ¬((7*i:Nat):Int)<0 by omega),aX];rw[bp,bT,bT,bp];by_cases g9:i=9
 ·have:=h9 g9;have:=h0 (by omega);rw[lκ (show(i:Int)=9 by omega),mβ (show ¬(1:Int)<(c:Int) by omega),lκ (show(0:Int)<(i:Int) by omega),mβ (show ¬(c:Int)=0 by omega)];rfl
 ·rw[mβ (show ¬(i:Int)=9 by omega),aX];by_cases g0:0<i
  ·have:=h0 g0;rw[lκ (show(0:Int)<(i:Int) by omega),mβ (show ¬(c:Int)=0 by omega)];rfl
  ·rw[mβ (show ¬(0:Int)<(i:Int) by omega)];rfl
def Ġ {cc:af}{n:Nat}(k0:Int×Int×Int->R)(k1:jE->R)(r:LN):∀(f i x acc q:Nat) (pre:LN),i+f=9->f<q->pre.length=i->acc<2 ^ (7*i)->x*2 ^ (7*i)+acc<18446744073709551616->(0<i->x≠0)->itL (lr cc n k0 k1) q ((acc:Int),bD (pre++(Jn f x++r)),((pre++(Jn f x++r)).length:Int),(i:Int))=k0 (((x*2 ^ (7*i)+acc:Nat):Int),((i+(Jn f x).length:Nat):Int),0)
 |0,i,x,acc,q+1,pre,hi,hq,hp,ha,hx,h0=>by
  have hx1:x<=1:=by
   obtain rfl:i=9:=by omega
   omega
  have h128:x % 128=x:=Nat.mod_eq_of_lt (by omega);have hb:(pre++(Jn 0 x++r))[i]?=some x:=by
   rw[lπ (by omega),hp,Nat.sub_self];rfl
  rw[aQ,WS k0 k1 _ (by omega) hb (by omega) (fun _=>hx1) h0 ha (by rw[h128];exact hx),fp (show(x:Int)<128 by omega),aN,h128];rfl
 |f+1,i,x,acc,q+1,pre,hi,hq,hp,ha,hx,h0=>by
  cases hb:Nat.blt x 128 with
  |true=>
   have hlt:x<128:=by rw[Nat.blt_eq]at hb;exact hb
   have h128:x % 128=x:=Nat.mod_eq_of_lt hlt;have e:Jn (f+1) x=[x]:=by unfold Jn;rw[hb];rfl
   rw[e];have hb:(pre++([x]++r))[i]?=some x:=by
    rw[lπ (by omega),hp,Nat.sub_self];rfl
   rw[aQ,WS k0 k1 _ (by omega) hb (by omega) (fun _=>by omega) h0 ha (by rw[h128];exact hx),fp (show(x:Int)<128 by omega),aN,h128];rfl
  |false=>
   have hge:¬x<128:=fun e=>by rw[show Nat.blt x 128=true by rw[Nat.blt_eq];exact e]at hb;cases hb
   have e:Jn (f+1) x=(x % 128+128)::Jn f (x / 128):=by rw[Jn,hb];rfl
   rw[e];have hb:(pre++((x % 128+128)::Jn f (x / 128)++r))[i]?=some (x % 128+128):=by
    rw[lπ (by omega),hp,Nat.sub_self];rfl
   have h128:(x % 128+128) % 128=x % 128:=by omega
   have hpow:2 ^ (7*(i+1))=128*2 ^ (7*i):=by rw[Nat.mul_add,Nat.pow_add];omega
   have hsum:x / 128*2 ^ (7*(i+1))+(x % 128*2 ^ (7*i)+acc)=x*2 ^ (7*i)+acc:=by
    rw[hpow,<-Nat.mul_assoc,<-Nat.add_assoc,<-mκ];congr 2;omega
   have hacc:x % 128*2 ^ (7*i)+acc<2 ^ (7*(i+1)):=by
    rw[hpow];have:x % 128*2 ^ (7*i)<=127*2 ^ (7*i):=lψ _ (by omega);omega
   rw[aQ,WS k0 k1 _ (by omega) hb (by omega) (fun _=>by omega) (fun _=>by omega) ha (by rw[h128];omega),Ru (show ¬((x % 128+128:Nat):Int)<128 by omega),aX,h128];have:=Ġ (cc:=cc) (n:=n) k0 k1 r f (i+1) (x / 128) (x % 128*2 ^ (7*i)+acc) q (pre++[x % 128+128]) (by omega) (by omega) (by rw[lε,hp];rfl) hacc (by rw[hsum];exact hx) (fun _=>by omega);rw[hsum,lρ]at this;refine this.trans ?_;rw[List.length_cons];congr 3;omega
def aT (x:Da)(n:Nat):R:=some (.tup [.p x,pI (n:Int),pI 0],[])
def Cl (v:Nat)(r:LN)(hv:v<18446744073709551616)(hm:20<=m):Ω m 111 [pL 1 (bD (fU v++r))] []=aT (.int .u64 (v:Int)) (fU v).length:=by
 replace hm:=fuel hm;obtain⟨m,rfl,hm⟩:=hm;apply XT m (bD (fU v++r));unfold MK;rw[bU];refine(Ġ _ _ r 9 0 v 0 m [] (by omega) (by omega) rfl (by decide) (by simpa using hv) (fun h=>absurd h (by omega))).trans ?_;rw[show v*2 ^ (7*0)+0=v by simp,Nat.zero_add];rfl
def ϳ {n:Nat}{hp:List Ob}{tab}{x:Int}{l:Nat}(h:evFn tab n f vs hp=aT (.int .u64 x) l)(K:Int->Int->Int->R):(cq tab n f vs hp fun d o=>bQ d fun r=>aa r fun d r=>dP d fun x=>aJ .u64 x fun i=>aa r fun d r=>dP d fun x=>aJ .i64 x fun j=>aa r fun d r=>dP d fun x=>aJ .i64 x fun k=>ag r<|ag o<|K i j k)=K x (l:Int) 0:=by
 rw[ae h];rfl
def Rh {n:Nat}{hp:List Ob}{tab}{x:Int}{l:Nat}(h:evFn tab n f vs hp=aT (.int .i64 x) l)(K:Int->Int->Int->R):(cq tab n f vs hp fun d o=>bQ d fun r=>aa r fun d r=>dP d fun x=>aJ .i64 x fun i=>aa r fun d r=>dP d fun x=>aJ .i64 x fun j=>aa r fun d r=>dP d fun x=>aJ .i64 x fun k=>ag r<|ag o<|K i j k)=K x (l:Int) 0:=by
 rw[ae h];rfl
def á {n:Nat}{hp:List Ob}{tab}{s:LN}{l:Nat}(h:evFn tab n f vs hp=aT (.str s) l)(K:LN->Int->Int->R):(cq tab n f vs hp fun d o=>bQ d fun r=>aa r fun d r=>dP d fun x=>dG x fun i=>aa r fun d r=>dP d fun x=>aJ .i64 x fun j=>aa r fun d r=>dP d fun x=>aJ .i64 x fun k=>ag r<|ag o<|K i j k)=K s (l:Int) 0:=by
 rw[ae h];rfl
def WI {n:Nat}{hp:List Ob}{tab}{es:LD}{l:Nat}(h:evFn tab n f vs hp=aT (.slice 1 es) l)(K:LD->Int->Int->R):(cq tab n f vs hp fun d o=>bQ d fun r=>aa r fun d r=>dP d fun x=>cR 1 x fun i=>aa r fun d r=>dP d fun x=>aJ .i64 x fun j=>aa r fun d r=>dP d fun x=>aJ .i64 x fun k=>ag r<|ag o<|K i j k)=K es (l:Int) 0:=by
 rw[ae h];rfl
def Sb (i:Int)(r:LN)(hi:kg i)(hm:21<=m):Ω m 249 [pL 1 (bD (fU (zz i)++r))] []=aT (.int .i64 i) (fU (zz i)).length:=by
 replace hm:=fuel hm;obtain⟨m,rfl,hm⟩:=hm;apply ļ m (bD (fU (zz i)++r));unfold Ss;have h2:=hi.2;refine(ϳ (Cl (zz i) r (W2 hi.1 (by omega)) hm) _).trans ?_;rw[ϻ i hi.1 (by omega)]
def sR (v:Nat)(r:LN)(mx:Int)(h1:(v:Int)<=mx)(h2:mx<9223372036854775808)(hm:21<=m):Ω m 248 [pL 1 (bD (fU v++r)),pI mx] []=aT (.int .i64 (v:Int)) (fU v).length:=by
 replace hm:=fuel hm;obtain⟨m,rfl,hm⟩:=hm;apply Pu m (bD (fU v++r)) mx;unfold A3;rw[Ru (show ¬mx<0 by omega),aX];refine(ϳ (Cl v r (by omega) hm) _).trans ?_;rw[show az 0 0=true from rfl,Bool.not_true,aX,show ab .u64 mx=mx by rw[mU];omega,Ru (show ¬mx<(v:Int) by omega),aX,cV (by omega) (by omega)]
def GH:∀(s:LN),By s->fi (bD s)=some s
 |[],_=>rfl
 |c::s,h=>by
  have h1:=GH s fun x hx=>h x (mα _ hx)
  have h2:=h c lχ;show(match fi (bD s)with|some s=>some ((Int.ofNat c).toNat % 256::s)|none=>none)=_;rw[h1];show some (c % 256::s)=_;rw[Nat.mod_eq_of_lt h2]
def WO (a b c:LN):List.take b.length (List.drop a.length (bD (a++(b++c))))=bD b:=by
 rw[fB,fB,<-bU a,List.drop_left,<-bU b,List.take_left]
def sQ (s r:LN)(mx:Int)(hs:By s)(h1:(s.length:Int)<=mx)(h2:mx<9223372036854775808)(hl:(lP s++r).length<1000000000)(hm:22<=m):Ω m 189 [pL 1 (bD (lP s++r)),pI mx] []=aT (.str s) (lP s).length:=by
 replace hm:=fuel hm;obtain⟨m,rfl,hm⟩:=hm;apply Ps m (bD (lP s++r)) mx;unfold A1;have e:lP s++r=fU s.length++(s++r):=by unfold lP;rw[lρ]
 have el:(lP s).length=(fU s.length).length+s.length:=by unfold lP;rw[lε]
 rw[lε,el]at hl;have hln:(bD (lP s++r)).length=(fU s.length).length+s.length+r.length:=by rw[bU,lε,el]
 have h3:=sR s.length (s++r) mx h1 h2 (m:=m) (by omega);rw[<-e]at h3;refine(Rh h3 _).trans ?_;rw[show az 0 0=true from rfl,Bool.not_true,aX,hln];rw[cV (n:=(((fU s.length).length+s.length+r.length:Nat):Int) - ((fU s.length).length:Int)) (by omega) (by omega),Ru (by omega),aX];rw[show ab .i64 (((fU s.length).length:Int)+(s.length:Int))=(((fU s.length).length+s.length:Nat):Int) by rw[cV (by omega) (by omega)];omega];rw[bk,lκ (by omega),aN,bk,lκ (by omega),aN,bk,lκ (by omega),aN,Int.toNat_natCast,Int.toNat_natCast,bk,lκ (by omega),aN];rw[Nat.add_sub_cancel_left,e,WO,GH s hs,bw,el]
def rd (a b:LN):List.take ((bD (a++b)).length - a.length) (List.drop a.length (bD (a++b)))=bD b:=by
 rw[fB,<-bU a,List.drop_left,lε,Nat.add_sub_cancel_left,List.take_length]
def Ws {α:Type}(xs:List α)(f:α->LN)(e:α->Da)(all:LN)(L:Nat->Int->Int->LD->R)(gu:Nat->LD->R)(hs:∀q i (h:i<xs.length) pre suf acc,all=pre++(f xs[i]++suf)->acc.length=i->L (q+1) (pre.length:Int) (i:Int) acc=L q (((pre++f xs[i]).length:Nat):Int) ((i+1:Nat):Int) (acc++[e xs[i]]))(he:∀q pos acc,L (q+1) ((pos:Nat):Int) (xs.length:Int) acc=gu pos acc):∀(d q i:Nat) (pre suf:LN) (acc:LD),i+d=xs.length->d<q->acc.length=i->all=pre++((xs.drop i).flatMap f++suf)->L q (pre.length:Int) (i:Int) acc=gu (pre++(xs.drop i).flatMap f).length (acc++(xs.drop i).map e)
 |0,q+1,i,pre,suf,acc,h,_,_,_=>by
  obtain rfl:i=xs.length:=by omega
  rw[he,List.drop_length,List.flatMap_nil,mη,List.map_nil,mη]
 |d+1,q+1,i,pre,suf,acc,h,hq,ha,hall=>by
  have hi:i<xs.length:=by omega
  rw[mμ hi,List.flatMap_cons,lρ]at hall;rw[hs q i hi pre _ acc hall ha,Ws xs f e all L gu hs he d q (i+1) (pre++f xs[i]) suf (acc++[e xs[i]]) (by omega) (by omega) (by rw[lε,ha];rfl) (by rw[hall];simp only[lρ]),mμ hi,List.flatMap_cons,List.map_cons,lρ,lρ];rfl
def Se (xs:LI)(r:LN)(mx:Int)(hx:∀x∈xs,kg x)(h1:(xs.length:Int)<=mx)(h2:mx<1000)(hl:(gZ xs++r).length<1000000000)(hm:1600<=m):Ω m 304 [pL 1 (bD (gZ xs++r)),pI mx,.p (.fn 249 [])] []=aT (.slice 1 (xs.map iE)) (gZ xs).length:=by
 replace hm:=fuel hm;obtain⟨m,rfl,hm⟩:=hm;apply Tv m (bD (gZ xs++r)) mx;unfold FJ;have e:gZ xs++r=fU xs.length++(xs.flatMap (fun i=>fU (zz i))++r):=by unfold gZ;rw[lρ]
 have h3:=sR xs.length (xs.flatMap (fun i=>fU (zz i))++r) mx h1 (by omega) (m:=m) (by omega);rw[<-e]at h3;refine(Rh h3 _).trans ?_;refine(Ws xs (fun i=>fU (zz i)) iE (gZ xs++r) (fun q pos i acc=>itL (jR (cq lay0.tab m) m _) q (bD (gZ xs++r),acc.length,pos,0,(xs.length:Int),i,acc)) (fun pos acc=>aT (.slice 1 acc) pos) (fun q i hi pre suf acc hall ha=>?_) (fun q pos acc=>?_) xs.length m 0 (fU xs.length) r [] (by omega) (by omega) rfl (by rw[List.drop_zero];exact e)).trans ?_
 ·have hlen:(gZ xs++r).length=pre.length+((fU (zz xs[i])).length+suf.length):=by rw[hall,lε,lε]
  rw[aQ];simp only[jR,show az 0 0=true from rfl,fp (show(i:Int)<(xs.length:Int) by omega),aN,bk,bU,Int.toNat_natCast,lκ (show(0:Int)<=(pre.length:Int) by omega),lκ (show(pre.length:Int)<=((gZ xs++r).length:Int) by omega)];have hd:=rd pre (fU (zz xs[i])++suf);rw[<-hall,bU]at hd;rw[hd];refine(Rh (Sb xs[i] suf (hx _ (lμ hi)) (m:=m) (by omega)) _).trans ?_;rw[Nat.beq_refl,aN,dz (by simp only[List.length_cons,List.length_nil];omega) (by decide),aN,wS (show i<c9 by unfold c9;omega)];rw[show ab .i64 ((pre.length:Int)+((fU (zz xs[i])).length:Int))=(((pre++fU (zz xs[i])).length:Nat):Int) by rw[cV (by omega) (by omega),lε];omega];rfl
 ·rw[aQ];simp only[jR,show az 0 0=true from rfl,c8,aN,aX,Bool.not_true];exact congrArg (fun l=>aT (.slice 1 l) pos) (gb _)
 ·rw[List.drop_zero,List.nil_append];rfl
def wO (xs:LI)(r:LN)(mx:Int)(hx:∀x∈xs,kg x)(h1:(xs.length:Int)<=mx)(h2:mx<1000)(hl:(gZ xs++r).length<1000000000)(hm:1601<=m):Ω m 251 [pL 1 (bD (gZ xs++r)),pI mx] []=aT (.slice 1 (xs.map iE)) (gZ xs).length:=by
 replace hm:=fuel hm;obtain⟨m,rfl,hm⟩:=hm;apply Kk m (bD (gZ xs++r)) mx;unfold w8;exact WI (Se xs r mx hx h1 h2 hl hm) _
def Xu (s r:LN)(hs:By s)(h1:s.length<=64)(hl:(lP s++r).length<1000000000)(hm:23<=m):Ω m 306 [pL 1 (bD (lP s++r))] []=aT (.str s) (lP s).length:=by
 replace hm:=fuel hm;obtain⟨m,rfl,hm⟩:=hm;apply XS m (bD (lP s++r));unfold MJ;exact á (sQ s r 64 hs (by omega) (by omega) hl hm) _
def Sf (xs:List LN)(r:LN)(mx:Int)(hx:∀x∈xs,By x/\x.length<=64)(h1:(xs.length:Int)<=mx)(h2:mx<1000)(hl:(mN xs++r).length<1000000000)(hm:1600<=m):Ω m 305 [pL 1 (bD (mN xs++r)),pI mx,.p (.fn 306 [])] []=aT (.slice 1 (xs.map .str)) (mN xs).length:=by
 replace hm:=fuel hm;obtain⟨m,rfl,hm⟩:=hm;apply Tw m (bD (mN xs++r)) mx;unfold FK;have e:mN xs++r=fU xs.length++(xs.flatMap lP++r):=by unfold mN;rw[lρ]
 have h3:=sR xs.length (xs.flatMap lP++r) mx h1 (by omega) (m:=m) (by omega);rw[<-e]at h3;refine(Rh h3 _).trans ?_;refine(Ws xs lP Da.str (mN xs++r) (fun q pos i acc=>itL (jS (cq lay0.tab m) m _) q (bD (mN xs++r),acc.length,pos,0,(xs.length:Int),i,acc)) (fun pos acc=>aT (.slice 1 acc) pos) (fun q i hi pre suf acc hall ha=>?_) (fun q pos acc=>?_) xs.length m 0 (fU xs.length) r [] (by omega) (by omega) rfl (by rw[List.drop_zero];exact e)).trans ?_
 ·have hlen:(mN xs++r).length=pre.length+((lP xs[i]).length+suf.length):=by rw[hall,lε,lε]
  have hxi:=hx _ (lμ hi);rw[aQ];simp only[jS,show az 0 0=true from rfl,fp (show(i:Int)<(xs.length:Int) by omega),aN,bk,bU,Int.toNat_natCast,lκ (show(0:Int)<=(pre.length:Int) by omega),lκ (show(pre.length:Int)<=((mN xs++r).length:Int) by omega)];have hd:=rd pre (lP xs[i]++suf);rw[<-hall,bU]at hd;rw[hd];refine(á (Xu xs[i] suf hxi.1 hxi.2 (by rw[lε];omega) (m:=m) (by omega)) _).trans ?_;rw[Nat.beq_refl,aN,dz (by simp only[List.length_cons,List.length_nil];omega) (by decide),aN,wS (show i<c9 by unfold c9;omega)];rw[show ab .i64 ((pre.length:Int)+((lP xs[i]).length:Int))=(((pre++lP xs[i]).length:Nat):Int) by rw[cV (by omega) (by omega),lε];omega]
 ·rw[aQ];simp only[jS,show az 0 0=true from rfl,c8,aN,aX,Bool.not_true];exact congrArg (fun l=>aT (.slice 1 l) pos) (gb _)
 ·rw[List.drop_zero,List.nil_append];rfl
def zw (xs:List LN)(r:LN)(mx:Int)(hx:∀x∈xs,By x/\x.length<=64)(h1:(xs.length:Int)<=mx)(h2:mx<1000)(hl:(mN xs++r).length<1000000000)(hm:1601<=m):Ω m 252 [pL 1 (bD (mN xs++r)),pI mx] []=aT (.slice 1 (xs.map .str)) (mN xs).length:=by
 replace hm:=fuel hm;obtain⟨m,rfl,hm⟩:=hm;apply zE m (bD (mN xs++r)) mx;unfold pi;exact WI (Sf xs r mx hx h1 h2 hl hm) _
def JA (c:Nat)(r:LN)(hc:c<=1)(hm:1<=m):Ω m 250 [pL 1 (bD (c::r))] []=aT (.int .i64 (c:Int)) 1:=by
 replace hm:=fuel hm;obtain⟨m,rfl,hm⟩:=hm;apply Kl m (bD (c::r));unfold xa;have h0:bI (bD (c::r)) 0=some (Da.int .u8 (c:Int)):=T6 (b:=c::r) (i:=0) rfl;rw[bU,List.length_cons,bp,mβ (by omega),aX,h0];simp only[bw,bV,Ru (show ¬(1:Int)<(c:Int) by omega),aX,cV (n:=(c:Int)) (by omega) (by omega)];rfl
def Sd (v:Va)(r:LN)(hv:kj v=true)(hy:Ms v)(hl:r.length<900000000)(hm:1700<=m):Ω m 190 [pL 1 (bD (Af v++r))] []=aT v.e (Af v).length:=by
 replace hm:=fuel hm;obtain⟨m,rfl,hm⟩:=hm;apply Tt m (bD (Af v++r));unfold FI;have ho:=Cc hv;have hk:=ho.k;have hlen:=Ea ho;have h0:bI (bD (Af v++r)) 0=some (Da.int .u8 (v.k.toNat:Int)):=T6 (b:=Af v++r) (i:=0) rfl;have hd:List.take ((Af v++r).length - 1) (List.drop 1 (bD (Af v++r)))=bD (uJ v++r):=by
  have:=rd [v.k.toNat] (uJ v++r);rw[bU]at this;exact this
 have hpl:(Af v).length=(uJ v).length+1:=rfl;have hwk:ab .i64 ((v.k.toNat:Nat):Int)=v.k:=by rw[cV (by omega) (by omega)];omega
 rw[bU];rw[bp (((Af v++r).length:Nat):Int),mβ (by rw[lε,hpl];omega),aX,h0];simp only[bw,bV,bk,lκ (show(1:Int)<=(((Af v++r).length:Nat):Int) by rw[lε,hpl];omega),aN,hwk,show Int.toNat 1=1 from rfl,hd];have go:∀l:Nat,l<=1299->ab .i64 ((l:Int)+1)=((l+1:Nat):Int):=fun l h=>wS (by unfold c9;omega)
 have hw:∀x,uJ v=x->(uJ v).length=x.length:=fun x h=>by rw[h]
 cases e0:az v.k 0 with
 |true=>
  rw[bp,lδ]at e0;have h1:uJ v=[]:=by unfold uJ;rw[e0];rfl
  have hn:v.n=0:=by rcases ho.n (by omega)with h|h<;>omega
  rw[aN,hpl,h1];unfold Va.e Va.c;rw[hn,ho.s (by omega),ho.i (by omega),ho.l (by omega)];rfl
 |false=>
 rw[aX];cases e1:az v.k 1 with
 |true=>
  have h1:uJ v=fU (zz v.n):=by unfold uJ;rw[e1];rfl
  rw[bp,lδ]at e1;rw[aN,h1];refine(Rh (Sb v.n r hy.i.1 (m:=m) (by omega)) _).trans ?_;rw[go _ (by rw[<-h1];omega),hpl,h1];unfold Va.e Va.c;rw[ho.s (by omega),ho.i (by omega),ho.l (by omega)];rfl
 |false=>
 rw[aX];cases e2:az v.k 2 with
 |true=>
  have h1:uJ v=[v.n.toNat]:=by unfold uJ;rw[e1,e2];rfl
  rw[bp,lδ]at e2;have hn:0<=v.n/\v.n<=1:=by rcases ho.n (by omega)with h|h<;>omega
  rw[aN,h1];refine(Rh (JA v.n.toNat r (by omega) (m:=m) (by omega)) _).trans ?_;rw[go 1 (by omega),hpl,h1];unfold Va.e Va.c;rw[ho.s (by omega),ho.i (by omega),ho.l (by omega),show((v.n.toNat:Nat):Int)=v.n by omega];rfl
 |false=>
 rw[aX];cases e3:az v.k 3 with
 |true=>
  have h1:uJ v=lP v.s:=by unfold uJ;rw[e1,e2,e3];rfl
  rw[bp,lδ]at e3;have hn:v.n=0:=by rcases ho.n (by omega)with h|h<;>omega
  rw[aN,h1];have:=ho.sn;refine(á (sQ v.s r 64 hy.s (by omega) (by omega) (by rw[lε,<-h1];omega) (m:=m) (by omega)) _).trans ?_;rw[go _ (by rw[<-h1];omega),hpl,h1];unfold Va.e Va.c;rw[hn,ho.i (by omega),ho.l (by omega)];rfl
 |false=>
 rw[aX];cases e4:az v.k 4 with
 |true=>
  have h1:uJ v=gZ v.I:=by unfold uJ;rw[e1,e2,e3,e4];rfl
  rw[bp,lδ]at e4;have hn:v.n=0:=by rcases ho.n (by omega)with h|h<;>omega
  rw[aN,h1];have:=ho.i_n;refine(WI (wO v.I r 16 hy.i.2 (by omega) (by omega) (by rw[lε,<-h1];omega) (m:=m) (by omega)) _).trans ?_;rw[go _ (by rw[<-h1];omega),hpl,h1];unfold Va.e Va.c;rw[hn,ho.s (by omega),ho.l (by omega)];rfl
 |false=>
 rw[aX];cases e5:az v.k 5 with
 |true=>
  have h1:uJ v=mN v.L:=by unfold uJ;rw[e1,e2,e3,e4,e5];rfl
  rw[bp,lδ]at e5;have hn:v.n=0:=by rcases ho.n (by omega)with h|h<;>omega
  rw[aN,h1];have:=ho.ln;refine(WI (zw v.L r 16 (fun s hs=>⟨hy.l s hs,ho.le s hs⟩) (by omega) (by omega) (by rw[lε,<-h1];omega) (m:=m) (by omega)) _).trans ?_;rw[go _ (by rw[<-h1];omega),hpl,h1];unfold Va.e Va.c;rw[hn,ho.s (by omega),ho.i (by omega)];rfl
 |false=>
  exfalso;rw[bp,lζ]at e0 e1 e2 e3 e4 e5;omega
section
def W5 (b:LN):Ob:= .box [pL 1 (bD b),pB false]
def dR (x:Da)(b:LN):R:=some (.p x,[W5 b])
def qI (a r:LN)(hm:1<=m):Ω m 112 [.box 0 0,pI (a.length:Int),pI 0] [W5 (a++r)]=some (.tup [],[W5 r]):=by
 replace hm:=fuel hm;obtain⟨m,rfl,hm⟩:=hm;apply SP m (bD (a++r)) false (a.length:Int) 0;unfold Fa;rw[show az 0 0=true from rfl,Bool.not_true,aX,bk,lκ (by omega),aN,bk,bU,lκ (by rw[lε];omega),aN,Int.toNat_natCast];have:=rd a r;rw[bU]at this;rw[this];rfl
section
variable {f n:Nat} {vs:List D} {hp:List Ob} {tab:Nat->Option Fn} {r:LN}
def ä (h:evFn tab n f vs hp=some (.tup [],[W5 r]))(K:LD->Bool->R):(cq tab n f vs hp fun d o=>bQ d fun r=>ag r<|aa o fun u o'=>dO u fun r=>aa r fun d r=>dP d fun x=>cR 1 x fun l=>aa r fun d r=>dP d fun x=>aE x fun b=>ag r<|ag o'<|K l b)=K (bD r) false:=by
 rw[ae h];rfl
def DL {v:Int}(h:evFn tab n f vs hp=dR (.int .i64 v) r)(K:Int->LD->Bool->R):(cq tab n f vs hp fun d o=>dP d fun x=>aJ .i64 x fun i=>aa o fun u o'=>dO u fun r=>aa r fun d r=>dP d fun x=>cR 1 x fun l=>aa r fun d r=>dP d fun x=>aE x fun b=>ag r<|ag o'<|K i l b)=K v (bD r) false:=by
 rw[ae h];rfl
def Ϝ {v:LN}(h:evFn tab n f vs hp=dR (.str v) r)(K:LN->LD->Bool->R):(cq tab n f vs hp fun d o=>dP d fun x=>dG x fun i=>aa o fun u o'=>dO u fun r=>aa r fun d r=>dP d fun x=>cR 1 x fun l=>aa r fun d r=>dP d fun x=>aE x fun b=>ag r<|ag o'<|K i l b)=K v (bD r) false:=by
 rw[ae h];rfl
def aat {v:LD}(h:evFn tab n f vs hp=dR (.slice 1 v) r)(K:LD->LD->Bool->R):(cq tab n f vs hp fun d o=>dP d fun x=>cR 1 x fun i=>aa o fun u o'=>dO u fun r=>aa r fun d r=>dP d fun x=>cR 1 x fun l=>aa r fun d r=>dP d fun x=>aE x fun b=>ag r<|ag o'<|K i l b)=K v (bD r) false:=by
 rw[ae h];rfl
def aau {v:Va}(h:evFn tab n f vs hp=dR v.e r)(K:aA->LD->Bool->R):(cq tab n f vs hp fun d o=>dP d fun x=>ao x fun i=>aa o fun u o'=>dO u fun r=>aa r fun d r=>dP d fun x=>cR 1 x fun l=>aa r fun d r=>dP d fun x=>aE x fun b=>ag r<|ag o'<|K i l b)=K v.r (bD r) false:=by
 rw[ae h];rfl
def abn {v:Cm}(h:evFn tab n f vs hp=dR v.e r)(K:aj->LD->Bool->R):(cq tab n f vs hp fun d o=>dP d fun x=>aR x fun i=>aa o fun u o'=>dO u fun r=>aa r fun d r=>dP d fun x=>cR 1 x fun l=>aa r fun d r=>dP d fun x=>aE x fun b=>ag r<|ag o'<|K i l b)=K v.r (bD r) false:=by
 rw[ae h];rfl
def abo {v:Ct}(h:evFn tab n f vs hp=dR v.e r)(K:ah->LD->Bool->R):(cq tab n f vs hp fun d o=>dP d fun x=>aF x fun i=>aa o fun u o'=>dO u fun r=>aa r fun d r=>dP d fun x=>cR 1 x fun l=>aa r fun d r=>dP d fun x=>aE x fun b=>ag r<|ag o'<|K i l b)=K v.r (bD r) false:=by
 rw[ae h];rfl
end
def eM (v:Nat)(r:LN)(mx:Int)(h1:(v:Int)<=mx)(h2:mx<9223372036854775808)(hm:30<=m):Ω m 65 [.box 0 0,pI mx] [W5 (fU v++r)]=dR (.int .i64 (v:Int)) r:=by
 replace hm:=fuel hm;obtain⟨m,rfl,hm⟩:=hm;apply Ka m (bD (fU v++r)) false mx;unfold wV;refine(ϳ (Cl v r (by omega) (m:=m) (by omega)) _).trans ?_;refine(ä (qI (fU v) r (m:=m) (by omega)) _).trans ?_;rw[show ab .u64 mx=mx by rw[mU];omega,Ru (show ¬mx<(v:Int) by omega),aX,cV (by omega) (by omega)];rfl
def wI (s r:LN)(hs:By s)(h1:s.length<=32)(hl:(lP s++r).length<1000000000)(hm:30<=m):Ω m 113 [.box 0 0] [W5 (lP s++r)]=dR (.str s) r:=by
 replace hm:=fuel hm;obtain⟨m,rfl,hm⟩:=hm;apply SQ m (bD (lP s++r)) false;unfold Fb;refine(á (sQ s r 32 hs (by omega) (by omega) hl (m:=m) (by omega)) _).trans ?_;exact ä (qI (lP s) r (m:=m) (by omega)) _
def EP (xs:LI)(r:LN)(mx:Int)(hx:∀x∈xs,kg x)(h1:(xs.length:Int)<=mx)(h2:mx<1000)(hl:(gZ xs++r).length<1000000000)(hm:1610<=m):Ω m 191 [.box 0 0,pI mx] [W5 (gZ xs++r)]=dR (.slice 1 (xs.map iE)) r:=by
 replace hm:=fuel hm;obtain⟨m,rfl,hm⟩:=hm;apply SO m (bD (gZ xs++r)) false mx;unfold E9;refine(WI (wO xs r mx hx h1 h2 hl (m:=m) (by omega)) _).trans ?_;exact ä (qI (gZ xs) r (m:=m) (by omega)) _
def abB {n:Nat}{hp:List Ob}{tab}{v:Va}{l:Nat}(h:evFn tab n f vs hp=aT v.e l)(K:aA->Int->Int->R):(cq tab n f vs hp fun d o=>bQ d fun r=>aa r fun d r=>dP d fun x=>ao x fun i=>aa r fun d r=>dP d fun x=>aJ .i64 x fun j=>aa r fun d r=>dP d fun x=>aJ .i64 x fun k=>ag r<|ag o<|K i j k)=K v.r (l:Int) 0:=by
 rw[ae h];rfl
def AA (v:Va)(r:LN)(hv:kj v=true)(hy:Ms v)(hl:r.length<900000000)(hm:1710<=m):Ω m 114 [.box 0 0] [W5 (Af v++r)]=dR v.e r:=by
 replace hm:=fuel hm;obtain⟨m,rfl,hm⟩:=hm;apply Pe m (bD (Af v++r)) false;unfold AO;refine(abB (Sd v r hv hy hl (m:=m) (by omega)) _).trans ?_;exact ä (qI (Af v) r (m:=m) (by omega)) _
def I5 {α:Type}(f:α->LN)(e:α->Da)(P:α->Prop)(N B:Nat)(L:Nat->Int->LN->LD->R)(gu:LN->LD->R)(hs:∀q d x r acc,P x->acc.length+d<N->(f x++r).length<=B->L (q+1) ((d+1:Nat):Int) (f x++r) acc=L q (d:Int) r (acc++[e x]))(r:LN)(he:∀q acc,L (q+1) 0 r acc=gu r acc):∀(ys:List α) (q:Nat) (acc:LD),(∀y∈ys,P y)->acc.length+ys.length<=N->ys.length<q->(ys.flatMap f++r).length<=B->L q (ys.length:Int) (ys.flatMap f++r) acc=gu r (acc++ys.map e)
 |[],q+1,acc,_,_,_,_=>by
  rw[List.map_nil,mη];exact he q acc
 |y::ys,q+1,acc,hp,hn,hq,hb=>by
  rw[List.length_cons]at hn hq;rw[List.flatMap_cons,lρ]at hb ⊢
  rw[List.length_cons,hs q _ y _ acc (hp y lχ) (by omega) hb,I5 f e P N B L gu hs r he ys q _ (fun z hz=>hp z (mα _ hz)) (by rw[lε,List.length_singleton];omega) (by omega) (by rw[lε]at hb;omega),List.map_cons,lρ];rfl
def YY {d:Nat}(h:d<1000000):ab .i64 (((d+1:Nat):Int) - 1)=(d:Int):=by rw[cV (by omega) (by omega)];omega
def Jt (x:Cm)(r:LN)(h:b_ x)(hl:(oY x++r).length<890000000)(hm:2000<=m):Ω m 115 [.box 0 0] [W5 (oY x++r)]=dR x.e r:=by
 replace hm:=fuel hm;obtain⟨m,rfl,hm⟩:=hm;apply J9 m (bD (oY x++r)) false;unfold wU;have hp:=h.p.1;have hq:=h.l.1;have hc:=h.c.1;have hr:=h.r;have e:oY x++r=lP x.name++(gZ x.params++(gZ x.locals++(fU x.res.toNat++(fU x.code.length++(x.code.flatMap zK++r))))):=by unfold oY;simp only[lρ]
 rw[e]at hl ⊢
 have l1:=hl;rw[lε]at l1;have l2:=l1;rw[lε]at l2;have l3:=l2;rw[lε]at l3;have l4:=l3;rw[lε,lε]at l4;refine(Ϝ (wI x.name _ h.n.1 h.n.2 (by omega) (m:=m) (by omega)) _).trans ?_;refine(aat (EP x.params _ 4 h.p.2 (by omega) (by omega) (by omega) (m:=m) (by omega)) _).trans ?_;refine(aat (EP x.locals _ 8 h.l.2 (by omega) (by omega) (by omega) (m:=m) (by omega)) _).trans ?_;refine(DL (eM x.res.toNat _ 5 (by omega) (by omega) (m:=m) (by omega)) _).trans ?_;refine(DL (eM x.code.length _ 3000 (by omega) (by omega) (m:=m) (by omega)) _).trans ?_;refine(I5 zK Cd.e r_ 1600 890000000 (fun q d b acc=>itL (gw (cq lay0.tab m) m _) q (d,bD b,false,[],x.name,x.params.map iE,((x.res.toNat:Nat):Int),x.locals.map iE,acc.length,acc)) (fun b acc=>dR (.agg [(.str x.name),(.slice 1 (x.params.map iE)),(.int .i64 ((x.res.toNat:Nat):Int)),(.slice 1 (x.locals.map iE)),(.slice 8 acc)]) b) (fun q d y s acc hy ha hb=>?_) r (fun q acc=>?_) x.code m [] h.c.2 (by rw[List.length_nil];omega) (by omega) (by omega)).trans ?_
 ·have e:zK y++s=fU y.op.toNat++(fU y.a.toNat++(fU y.b.toNat++((bif az y.op 1 then Af y.v else[])++s))):=by unfold zK;simp only[lρ]
  rw[e];rw[e]at hb;have l1:=hb;simp only[lε]at l1;have h1:=hy.o;have h2:=hy.a;have h3:=hy.b;rw[aQ];simp only[gw,fp (show(0:Int)<((d+1:Nat):Int) by omega),aN,aX];refine(DL (eM y.op.toNat _ 36 (by omega) (by omega) (m:=m) (by omega)) _).trans ?_;refine(DL (eM y.a.toNat _ 9223372036854775807 (by omega) (by omega) (m:=m) (by omega)) _).trans ?_;refine(DL (eM y.b.toNat _ 9223372036854775807 (by omega) (by omega) (m:=m) (by omega)) _).trans ?_;rw[show((y.op.toNat:Nat):Int)=y.op by omega,show((y.a.toNat:Nat):Int)=y.a by omega,show((y.b.toNat:Nat):Int)=y.b by omega,YY (by omega)];cases he:az y.op 1 with
  |true=>
   rw[bp,lδ]at he;rw[aN,cond_true];refine(aau (AA y.v s (hy.v he) hy.y (by omega) (m:=m) (by omega)) _).trans ?_;rw[Nat.beq_refl,aN,dz (by simp only[List.length_cons,List.length_nil];omega) (by decide),aN];rfl
  |false=>
   rw[bp,lζ]at he;rw[aX,cond_false,List.nil_append,Nat.beq_refl,aN,dz (by simp only[List.length_cons,List.length_nil];omega) (by decide),aN];have ez:y.e=Da.agg [Da.int .i64 y.op,Da.int .i64 y.a,Da.int .i64 y.b,Da.int .i64 0,Da.int .i64 0,Da.str [],Da.slice 1 [],Da.slice 1 []]:=by
    unfold Cd.e Cd.r;rw[hy.z he];rfl
   rw[ez]
 ·rw[aQ];simp only[gw,c8,aX];rw[gb];rfl
 ·rw[show((x.res.toNat:Nat):Int)=x.res by omega];rfl
def Xk (x:Ct)(r:LN)(h:CtO x)(hl:(rg x++r).length<880000000)(hm:2100<=m):Ω m 66 [.box 0 0] [W5 (rg x++r)]=dR x.e r:=by
 replace hm:=fuel hm;obtain⟨m,rfl,hm⟩:=hm;apply XJ m (bD (rg x++r)) false;unfold MA;have hp:=h.f.1;have hq:=h.m.1;have e:rg x++r=lP x.name++(fU x.fields.length++(x.fields.flatMap xY++(fU x.methods.length++(x.methods.flatMap oY++r)))):=by unfold rg;simp only[lρ]
 rw[e]at hl ⊢
 have l1:=hl;simp only[lε]at l1;refine(Ϝ (wI x.name _ h.n.1 h.n.2 (by omega) (m:=m) (by omega)) _).trans ?_;refine(DL (eM x.fields.length _ 8 (by omega) (by omega) (m:=m) (by omega)) _).trans ?_;refine(I5 xY Fe.e FeO 1600 890000000 (fun q d b acc=>itL (lj (cq lay0.tab m) m _) q (d,bD b,false,[],x.name,acc.length,acc)) (fun b acc=>dR (.agg [(.str x.name),(.slice 7 acc),(.slice 5 (x.methods.map Cm.e))]) r) (fun q d y s acc hy ha hb=>?_) (fU x.methods.length++(x.methods.flatMap oY++r)) (fun q acc=>?_) x.fields m [] h.f.2 (by rw[List.length_nil];omega) (by omega) (by simp only[lε];omega)).trans ?_
 ·have e:xY y++s=lP y.name++(fU y.kind.toNat++(Af y.init++s)):=by unfold xY;simp only[lρ]
  rw[e];rw[e]at hb;have l1:=hb;simp only[lε]at l1;have h1:=hy.k;rw[aQ];simp only[lj,fp (show(0:Int)<((d+1:Nat):Int) by omega),aN,aX];refine(Ϝ (wI y.name _ hy.n.1 hy.n.2 (by simp only[lε];omega) (m:=m) (by omega)) _).trans ?_;refine(DL (eM y.kind.toNat _ 5 (by omega) (by omega) (m:=m) (by omega)) _).trans ?_;refine(aau (AA y.init s hy.v.1 hy.v.2 (by omega) (m:=m) (by omega)) _).trans ?_;rw[show((y.kind.toNat:Nat):Int)=y.kind by omega,YY (by omega),Nat.beq_refl,aN,dz (by simp only[List.length_cons,List.length_nil];omega) (by decide),aN];rfl
 ·rw[aQ];simp only[lj,c8,aX];refine(DL (eM x.methods.length _ 16 (by omega) (by omega) (m:=m) (by omega)) _).trans ?_;refine(I5 oY Cm.e b_ 1600 889000000 (fun q d b ac=>itL (lk (cq lay0.tab m) m _) q (d,bD b,false,[],x.name,acc.length,ac.length,acc,ac)) (fun b ac=>dR (.agg [(.str x.name),(.slice 7 acc),(.slice 5 ac)]) b) (fun q d y s ac hy ha hb=>?_) r (fun q ac=>?_) x.methods m [] h.m.2 (by rw[List.length_nil];omega) (by omega) (by simp only[lε];omega)).trans ?_
  ·rw[aQ];simp only[lk,fp (show(0:Int)<((d+1:Nat):Int) by omega),aN,aX];refine(abn (Jt y s hy (by omega) (m:=m) (by omega)) _).trans ?_;rw[YY (by omega),Nat.beq_refl,aN,dz (by simp only[List.length_cons,List.length_nil];omega) (by decide),aN];rfl
  ·rw[aQ];simp only[lk,c8,aX];rw[gb,gb];rfl
  ·rw[List.nil_append]
 ·rw[List.nil_append];rfl
def Oy (c:List Ct)(hc:zB c)(hf:vB c=true)(ho:q_ c)(hm:4000<=m):Ω m 30 [pL 1 (bD (C1 c))] []=aT (c4 c).e (C1 c).length:=by
 replace hm:=fuel hm;obtain⟨m,rfl,hm⟩:=hm;apply O4 m (bD (C1 c));unfold AE;have hn:=ho.n;have hl:=Vb ho;have e:C1 c=fU c.length++(c.flatMap rg++[]):=by rw[mη];rfl
 generalize hw:C1 c=w at*
 have l1:=hl;rw[e,lε]at l1;have h0:=eM c.length (c.flatMap rg++[]) 8 (by omega) (by omega) (m:=m) (by omega);rw[<-e]at h0;refine(DL h0 _).trans ?_;refine(I5 rg Ct.e CtO 1600 600000000 (fun q d b acc=>itL (iP (cq lay0.tab m) m _) q (bD w,d,acc.length,acc,bD b,false)) (fun b acc=>cq lay0.tab m 63 [(.p (.agg [(.slice 3 acc)]))] [] fun d43 o44=>
  dP d43 fun x45=>
  aE x45 fun b46=>
  ag o44<|
  iL b46 (aT (.agg [.slice 3 acc]) w.length) (some ((.tup [(.p (.agg [(.slice 3 [])])),(pI 0),(pI 3)]),[]))) (fun q d y s acc hy ha hb=>?_) [] (fun q acc=>?_) c m [] ho.t (by rw[List.length_nil];omega) (by omega) (by omega)).trans ?_
 ·rw[aQ];simp only[iP,fp (show(0:Int)<((d+1:Nat):Int) by omega),aN,aX];refine(abo (Xk y s hy (by omega) (m:=m) (by omega)) _).trans ?_;rw[YY (by omega),Nat.beq_refl,aN,dz (by simp only[List.length_cons,List.length_nil];omega) (by decide),aN];rfl
 ·rw[aQ];simp only[iP,c8,aX];rw[gb,bU,bU,List.length_nil,cV (by omega) (by omega)];simp only[Int.ofNat_zero,Int.sub_zero];rfl
 ·rw[List.nil_append];refine(ae (Cg c hc (m:=m) (by omega)) _).trans ?_;rw[ba,aL,aC,hf,aN];rfl
end
def TY {α:Type}[DecidableEq α]{xs ys:List α}(hl:xs.length=ys.length):decide (xs=ys)=((xs.zip ys).all fun p=>!(!decide (p.1=p.2))):=by
 rw[mι,mζ,lδ];constructor
 ·rintro rfl p hp
  obtain⟨i,hi,rfl⟩:=qζ hp;simp
 ·intro ha;refine List.ext_getElem hl fun i h1 h2=>?_
  have:=ha (xs[i],ys[i]) (by rw[<-List.getElem_zip (h:=by simp;omega)];exact lμ _);simpa using this
def wK (xs ys:LI)(h:xs.length<1501\/ys.length<1501)(hm:1503<=m):Ω m 93 [pL 1 (xs.map iE),pL 1 (ys.map iE)] []=dQ (decide (xs=ys)):=by
 replace hm:=fuel hm;obtain⟨m,rfl,hm⟩:=hm;apply SY m (xs.map iE) (ys.map iE);unfold Fi;simp only[lα,bp,mJ];by_cases hl:(xs.length:Int)=ys.length
 ·rw[if_pos hl];have hl':xs.length=ys.length:=by omega
  refine(br (xs.zip ys) (fun q i=>itL (jM _ m _ _) q (xs.map iE,ys.map iE,i)) (fun p=>!decide (p.1=p.2)) (fun i=>some (pB false,[])) (some (pB true,[])) (fun q i hi=>?_) (fun q=>?_) (by simp;omega)).trans ?_
  ·have hx:i<xs.length:=by simp at hi;omega
   have hy:i<ys.length:=by omega
   rw[aQ];simp only[jM,lα,fp (show((i:Int)<(xs.length:Int)) by omega),aN,aU,be,bh hx,bh hy,bw,dI,wS (show i<c9 by unfold c9;omega),List.getElem_zip,bp];exact lC _ _ _
  ·rw[aQ];simp only[jM,lα,show((xs.zip ys).length:Int)=xs.length by simp;omega,c8,aX]
  ·rw[TY hl',iW];cases(xs.zip ys).findIdx? fun p=>!decide (p.1=p.2)<;>rfl
 ·rw[if_neg hl,mβ (by rintro rfl;exact hl rfl)]
def RT (xs ys:List LN)(h:xs.length<1501\/ys.length<1501)(hm:1503<=m):Ω m 94 [pL 1 (xs.map .str),pL 1 (ys.map .str)] []=dQ (decide (xs=ys)):=by
 replace hm:=fuel hm;obtain⟨m,rfl,hm⟩:=hm;apply SZ m (xs.map .str) (ys.map .str);unfold Fj;simp only[lα,bp,mJ];by_cases hl:(xs.length:Int)=ys.length
 ·rw[if_pos hl];have hl':xs.length=ys.length:=by omega
  refine(br (xs.zip ys) (fun q i=>itL (jN _ m _ _) q (xs.map .str,ys.map .str,i)) (fun p=>!decide (p.1=p.2)) (fun i=>some (pB false,[])) (some (pB true,[])) (fun q i hi=>?_) (fun q=>?_) (by simp;omega)).trans ?_
  ·have hx:i<xs.length:=by simp at hi;omega
   have hy:i<ys.length:=by omega
   rw[aQ];simp only[jN,lα,fp (show((i:Int)<(xs.length:Int)) by omega),aN,aU,be,bh hx,bh hy,bw,tv,wS (show i<c9 by unfold c9;omega),List.getElem_zip,hM];exact lC _ _ _
  ·rw[aQ];simp only[jN,lα,show((xs.zip ys).length:Int)=xs.length by simp;omega,c8,aX]
  ·rw[TY hl',iW];cases(xs.zip ys).findIdx? fun p=>!decide (p.1=p.2)<;>rfl
 ·rw[if_neg hl,mβ (by rintro rfl;exact hl rfl)]
def RU (a b:Va)(hi:a.I.length<1501\/b.I.length<1501)(hl:a.L.length<1501\/b.L.length<1501)(hm:1504<=m):Ω m 50 [.p a.e,.p b.e] []=dQ (eZ a b):=by
 replace hm:=fuel hm;obtain⟨m,rfl,hm⟩:=hm;apply S4 m a.r b.r;unfold Fk;show iL (az a.k b.k) _ _=_;have h1:=ae (wK (m:=m) a.I b.I hi hm);have h2:=ae (RT (m:=m) a.L b.L hl hm);simp only[Va.r,h1,h2,ba,aL,aC,eZ];cases az a.k b.k<;>cases az a.n b.n<;>cases cM a.s b.s<;>cases decide (a.I=b.I)<;>rfl
def wL (v:Va)(hi:v.I.length<1501)(hl:v.L.length<1501)(hm:1504<=m):Ω m 50 [.p v.e,.p v.e] []=dQ true:=by
 have:=RU v v (.inl hi) (.inl hl) hm;rw[B3]at this;exact this
def DM (l:List α):l.findIdx? (fun _=>false)=none:=mσ.2 fun _ _=>rfl
def EQ (l:List Fe)(hl:l.length<=8)(hv:∀f∈l,FeO f)(hm:1600<=m):Ω m 71 [pL 7 (l.map Fe.e),pL 7 (l.map Fe.e)] []=dQ true:=by
 replace hm:=fuel hm;obtain⟨m,rfl,hm⟩:=hm;apply Pj m (l.map Fe.e) (l.map Fe.e);unfold AS;rw[lα,bp,lκ rfl,Bool.not_true,aX];refine(br l (fun q i=>itL (iS (cq lay0.tab m) m _ _) q (l.map Fe.e,l.map Fe.e,i)) (fun _=>false) (fun _=>dQ false) (dQ true) (fun q i hi=>?_) (fun q=>?_) (by omega)).trans ?_
 ·rw[aQ];have ho:=Cc (hv _ (lμ hi)).v.1;have h1:=ho.i_n;have h2:=ho.ln;have hs:=ae (wL l[i].init (by omega) (by omega) (m:=m) (by omega));simp only[iS,lα,fp (show(i:Int)<(l.length:Int) by omega),aN,aU,be,bh hi,bw,Ũ,hM,bp,decide_true,Bool.not_true,aX,wS (show i<c9 by unfold c9;omega)];refine(hs _).trans ?_;simp only[ba,aL,aC];rfl
 ·rw[aQ];simp only[iS,lα,c8,aX];rfl
 ·rw[DM];rfl
def J_ {x:Cd}(h:r_ x):x.v.I.length<1501/\x.v.L.length<1501:=by
 by_cases e:x.op=1
 ·have ho:=Cc (h.v e);have h1:=ho.i_n;have h2:=ho.ln;omega
 ·rw[h.z e];exact⟨by decide,by decide⟩
def Ci (x:Cm)(h:b_ x)(hm:1600<=m):Ω m 72 [.p x.e,.p x.e] []=dQ true:=by
 replace hm:=fuel hm;obtain⟨m,rfl,hm⟩:=hm;apply Kd m x.r x.r;unfold wZ;have hp:=h.p.1;have hq:=h.l.1;have hc:=h.c.1;have h1:=ae (wK x.params x.params (.inl (by omega)) (m:=m) (by omega));have h2:=ae (wK x.locals x.locals (.inl (by omega)) (m:=m) (by omega));rw[hM,lκ rfl,Bool.not_true,aX,bp,lκ rfl,Bool.not_true,aX];refine(h1 _).trans ?_;rw[ba,aL,aC,lκ rfl,aN];refine(h2 _).trans ?_;rw[ba,aL,aC,lκ rfl,aN,bp,lκ rfl,Bool.not_true,aX];refine(br x.code (fun q i=>itL (gy (cq lay0.tab m) m _ _) q (i,x.r,x.r)) (fun _=>false) (fun _=>dQ false) (dQ true) (fun q i hi=>?_) (fun q=>?_) (by omega)).trans ?_
 ·rw[aQ];have hl:=J_ (h.c.2 _ (lμ hi));have hs:=ae (wL x.code[i].v hl.1 hl.2 (m:=m) (by omega));simp only[gy,show x.r.Code=x.code.map Cd.e from rfl,lα,fp (show(i:Int)<(x.code.length:Int) by omega),aN,aU,be,bh hi,bw,W6,hM,bp,decide_true,Bool.not_true,aX,wS (show i<c9 by unfold c9;omega)];refine(hs _).trans ?_;simp only[ba,aL,aC];rfl
 ·rw[aQ];simp only[gy,show x.r.Code=x.code.map Cd.e from rfl,lα,c8,aX];rfl
 ·rw[DM];rfl
def Jv (c:List Ct)(h:q_ c)(hm:1700<=m):Ω m 32 [.p (c4 c).e,.p (c4 c).e] []=dQ true:=by
 replace hm:=fuel hm;obtain⟨m,rfl,hm⟩:=hm;apply SX m (c4 c) (c4 c);unfold Fh;have hn:=h.n;rw[bp,lκ rfl,Bool.not_true,aX];refine(br c (fun q i=>itL (ii (cq lay0.tab m) m _ _) q (i,c4 c,c4 c)) (fun _=>false) (fun _=>dQ false) (dQ true) (fun q i hi=>?_) (fun q=>?_) (by omega)).trans ?_
 ·rw[aQ];have ht:=h.t _ (lμ hi);have hml:=ht.m.1;have hs:=ae (EQ c[i].fields ht.f.1 ht.f.2 (m:=m) (by omega));simp only[ii,show(c4 c).Types=c.map Ct.e from rfl,lα,fp (show(i:Int)<(c.length:Int) by omega),aN,aU,be,bh hi,bw,CU,hM,decide_true,Bool.not_true,aX,bp];refine(hs _).trans ?_;simp only[ba,aL,aC,aN];refine(br c[i].methods (fun q' j=>itL (jL (cq lay0.tab m) m _ _) q' ((i:Int),j,c4 c,c4 c,c[i].r,c[i].r)) (fun _=>false) (fun _=>dQ false) (itL (ii (cq lay0.tab m) m (fun(u36,u37,u38,u39)=>some ((pB false),[])) (fun(i40,u41,u42)=>some ((pB true),[]))) q (((i+1:Nat):Int),c4 c,c4 c)) (fun q' j hj=>?_) (fun q'=>?_) (q:=m) (by omega)).trans ?_
  ·rw[aQ];have hs:=ae (Ci c[i].methods[j] (ht.m.2 _ (lμ hj)) (m:=m) (by omega));simp only[jL,show c[i].r.Methods=c[i].methods.map Cm.e from rfl,lα,fp (show(j:Int)<(c[i].methods.length:Int) by omega),aN,aU,be,bh hj,bw,GP,wS (show j<c9 by unfold c9;omega)];refine(hs _).trans ?_;simp only[ba,aL,aC];rfl
  ·rw[aQ];simp only[jL,show c[i].r.Methods=c[i].methods.map Cm.e from rfl,lα,c8,aX];rw[wS (show i<c9 by unfold c9;omega)]
  ·rw[DM];rfl
 ·rw[aQ];simp only[ii,show(c4 c).Types=c.map Ct.e from rfl,lα,c8,aX];rfl
 ·rw[DM];rfl
def OD (c:List Ct)(x:Mc)(key:LN)(fs:List Va)(rp:Va)(p5:Int)(hbc:Bc c)(hcv:CoV c)(hby:ByC c)(hxs:LB x.ls)(hfs:LB fs)(hrp:VB rp)(h5:0<=p5)(hm:2000100<=m)(haw:Ω m 9 [] []=some (pB true,[])):Ω (m+1) 8 [.p (c4 c).e,.p x.e,pS key,pL 5 (fs.map Va.e),.p rp.e,.p (.int .u16 p5)] []=dQ true:=by
 apply Pg m (c4 c) x.r key (fs.map Va.e) rp.r p5;unfold AP;obtain⟨k,rfl,hk⟩:=fuel (show 2000099+1<=m from hm);have a1:=ae haw;rw[a1];simp only[ba,aL,aC,aN];refine(ae (Xe (m:=k) (by omega) c hbc) _).trans ?_;simp only[ba,aL,aC];cases hsm:y8 c with
 |false=>rfl
 |true=>
 rw[aN];refine(ae (sO (m:=k) (by omega) x.ls hxs.n fun v hv=>(hxs.v v hv).L) _).trans ?_;simp only[ba,aL,aC];cases hlx:yB x.ls with
 |false=>rfl
 |true=>
 rw[aN,ae (sO (m:=k) (by omega) fs hfs.n fun v hv=>(hfs.v v hv).L)];simp only[ba,aL,aC];cases hlf:yB fs with
 |false=>rfl
 |true=>
 rw[aN];refine(ae (sO (m:=k) (by omega) [rp] (by simp[m5]) fun v hv=>by rw[List.mem_singleton.1 hv];exact hrp.L) _).trans ?_;simp only[ba,aL,aC];cases hlr:yB [rp]with
 |false=>rfl
 |true=>
 rw[aN];cases hkey:aK 100 (key.length:Int)with
 |true=>rfl
 |false=>
 rw[aX];obtain⟨x1,x2⟩:=DH hlx;obtain⟨f1,f2⟩:=DH hlf;have hrl:=(DH hlr).2 rp lχ;have hsz:=WC hsm;refine(ae (sL hsz (m:=k+1) (by omega)) _).trans ?_;simp only[ba,bV,aC];cases hve:az (Jq c) 0 with
 |false=>rfl
 |true=>
 rw[Bool.not_true,aX];rw[bp,lδ]at hve;have hfr:=(ve0 hve).1;have hco:=aaf hsz hby hfr;refine(LS (Oz c hsz hfr hco (m:=k+1) (by omega)) _).trans ?_;refine(ae (Oy c hsz hfr hco (m:=k+1) (by omega)) _).trans ?_;obtain⟨t1,t2⟩:=aaL h5 (show(0:Int)<1000 by omega);have w1:ab .i64 (Int.tmod p5 1000)=Int.tmod p5 1000:=cV (by omega) (by omega);rw[w1];generalize hn1:Int.tmod p5 1000=n1 at*
 have hx':∀v∈x.ls,FZ v:=fun v hv=>(hxs.v v hv).v
 have hf':∀v∈fs,FZ v:=fun v hv=>(hfs.v v hv).v
 have r1:=ae (Ī (m:=k+1) hsz x key fs rp n1 (by omega) (by omega) x2 f2 hrl (Ϫ hsz hcv hx' hf' hrp.v) (by omega));have dS:∀(g:MU) K,c5 g.r.e K=K g.r:=fun _ _=>rfl
 have dC:∀(K:aq->R),xT (c4 c).e K=K (c4 c):=fun _=>rfl
 simp only[dB,aY,ba,bV,aC,dC];refine(r1 _).trans ?_;rw[dB,aY,ba];show c5 (I7 c x key fs rp n1).1.r.e _=_;rw[dS];simp only[aY,ba,bV,aC];refine(r1 _).trans ?_;rw[dB,aY,ba];show c5 (I7 c x key fs rp n1).1.r.e _=_;rw[dS];simp only[aY,ba,bV,aC];rw[show az 0 0=true from rfl,aN];refine(ae (Jv c hco (m:=k+1) (by omega)) _).trans ?_;rw[ba,aL,aC,aN,bp,lκ rfl,aN];have hlg:c_ (I7 c x key fs rp n1).1:=by
  unfold I7;cases hok:pr c x key fs rp n1 with
  |false=>exact aaq
  |true=>
   obtain⟨t,S,q1,q2,q3,q4,q5,-⟩:=B1 hsz hcv hx' hf' hrp.v hok;exact VU (fs:=fs) hsz q5 q1 q3 ⟨by omega,f2⟩ n1 (n1.toNat+1) 1 (X0 x fs rp) q2
 refine(ae (ET (I7 c x key fs rp n1).1 hlg (m:=k+1) (by omega)) _).trans ?_;rw[ba,aL,aC,aN]
variable {xs:LD}
def sF {P:Program}{B:TypeId->Nat}{n t:Nat}(h:qm P t=true)(hc:cg P B (n+1) t xs):∃s,xs=[.str s]/\By s:=by
 unfold qm at h;simp only[cg]at hc;split at h
 ·rename_i hu;rw[hu]at hc;obtain⟨s,rfl,-,h2⟩:=hc;exact⟨s,rfl,h2⟩
 ·cases h
def Yz {n:Nat}(h:CT (n+2) 43 xs):∃l:List LN,xs=[.slice 1 (l.map .str)]/\l.length<=1048576/\∀s∈l,By s:=by
 obtain⟨es,rfl,h1,h2⟩:=vq aao h;obtain⟨l,rfl,hl⟩:=gQ (f:=Da.str) (Q:=By) (es:=es) fun x hx=>by
  obtain⟨i,e,hb⟩:=sF VJ (CW VJ (h2 x hx));simp only[lω,and_true]at e;exact⟨i,e,hb⟩
 exact⟨l,rfl,by simpa using h1,hl⟩
def Uj {n:Nat}(h:CT (n+3) 45 xs):∃v:Va,xs=v.c/\VB v/\Ms v:=by
 obtain⟨_,_,rfl,h1,_,_,rfl,h2,_,_,rfl,h3,_,_,rfl,h4,_,_,rfl,h5,rfl⟩:=vr VK h;obtain⟨k,rfl,_⟩:=gT NH h1;obtain⟨m,rfl,hm⟩:=gT NH h2;obtain⟨s,rfl,hs⟩:=sF VJ h3;obtain⟨I,rfl,hI⟩:=vV h4;obtain⟨L,rfl,hL,hB⟩:=Yz h5;exact⟨⟨k,m,s,I,L⟩,rfl,⟨by show L.length<2000000;omega,NG hm,hI⟩,hs,hB,NG hm,hI⟩
def Ť {n:Nat}{x:Da}(h:DT (n+4) 87 x):∃a:Fe,x=a.e/\VB a.init/\By a.name/\Ms a.init:=by
 obtain⟨cs,rfl,g⟩:=qb ē h;obtain⟨_,_,rfl,h1,_,_,rfl,h2,_,_,rfl,h3,rfl⟩:=vr ē g;obtain⟨s,rfl,hs⟩:=sF VJ h1;obtain⟨k,rfl,_⟩:=gT NH h2;obtain⟨v,rfl,hv,hb⟩:=Uj h3;exact⟨⟨s,k,v⟩,rfl,hv,hs,hb⟩
def ť {n:Nat}{x:Da}(h:DT (n+4) 89 x):∃a:Cd,x=a.e/\VB a.v/\Ms a.v:=by
 obtain⟨cs,rfl,g⟩:=qb Ĕ h;obtain⟨_,_,rfl,h1,_,_,rfl,h2,_,_,rfl,h3,_,_,rfl,h4,rfl⟩:=vr Ĕ g;obtain⟨o,rfl,_⟩:=gT NH h1;obtain⟨a,rfl,_⟩:=gT NH h2;obtain⟨b,rfl,_⟩:=gT NH h3;obtain⟨v,rfl,hv⟩:=Uj h4;exact⟨⟨o,a,b,v⟩,rfl,hv⟩
def M_ {n:Nat}{x:Da}(h:DT (n+6) 64 x):∃a:Cm,x=a.e/\a.code.length<m5/\By a.name/\∀y∈a.code,VB y.v/\Ms y.v:=by
 obtain⟨cs,rfl,g⟩:=qb aaj h;obtain⟨_,_,rfl,h1,_,_,rfl,h2,_,_,rfl,h3,_,_,rfl,h4,_,_,rfl,h5,rfl⟩:=vr aaj g;obtain⟨s,rfl,hs⟩:=sF VJ h1;obtain⟨ps,rfl,_⟩:=vV h2;obtain⟨k,rfl,_⟩:=gT NH h3;obtain⟨ls,rfl,_⟩:=vV h4;obtain⟨is,rfl,hl,h5⟩:=vq ύ h5;obtain⟨is,rfl,hv⟩:=gQ (f:=Cd.e) (Q:=fun a=>VB a.v/\Ms a.v) (es:=is) fun x hx=>ť (h5 x hx)
 rw[lα]at hl;exact⟨⟨s,ps,k,ls,is⟩,rfl,Nat.lt_of_le_of_lt hl (by decide),hs,hv⟩
def N_ {n:Nat}{x:Da}(h:DT (n+8) 61 x):∃a:Ct,x=a.e/\Bt a/\(∀m∈a.methods,∀y∈m.code,FZ y.v)/\ByT a:=by
 obtain⟨cs,rfl,g⟩:=qb aal h;obtain⟨_,_,rfl,h1,_,_,rfl,h2,_,_,rfl,h3,rfl⟩:=vr aal g;obtain⟨s,rfl,hs⟩:=sF VJ h1;obtain⟨fs,rfl,hf,h2⟩:=vq ό h2;obtain⟨ms,rfl,hm,h3⟩:=vq aak h3;obtain⟨fs,rfl,hv⟩:=gQ (f:=Fe.e) (Q:=fun a=>VB a.init/\By a.name/\Ms a.init) (es:=fs) fun x hx=>Ť (h2 x hx)
 obtain⟨ms,rfl,hw⟩:=gQ (f:=Cm.e) (Q:=fun a=>a.code.length<m5/\By a.name/\∀y∈a.code,VB y.v/\Ms y.v) (es:=ms) fun x hx=>M_ (h3 x hx)
 rw[lα]at hf hm;exact⟨⟨s,fs,ms⟩,rfl,⟨Nat.lt_of_le_of_lt hf (by decide),Nat.lt_of_le_of_lt hm (by decide),fun f h=>(hv f h).1.L,fun m h=>⟨(hw m h).1,fun y hy=>((hw m h).2.2 y hy).1.L⟩⟩,fun m h y hy=>((hw m h).2.2 y hy).1.v,⟨hs,fun f h=>(hv f h).2,fun m h=>⟨(hw m h).2.1,fun y hy=>((hw m h).2.2 y hy).2⟩⟩⟩
def YU {n:Nat}{x:Da}(h:DT (n+10) 24 x):∃c:List Ct,x=(c4 c).e/\Bc c/\CoV c/\ByC c:=by
 obtain⟨cs,rfl,g⟩:=qb VI h;obtain⟨_,_,rfl,h1,rfl⟩:=vr VI g;obtain⟨ts,rfl,hl,h1⟩:=vq aam h1;obtain⟨c,rfl,hp⟩:=gQ (f:=Ct.e) (Q:=fun a=>Bt a/\(∀m∈a.methods,∀y∈m.code,FZ y.v)/\ByT a) (es:=ts) fun x hx=>N_ (h1 x hx)
 rw[lα]at hl;exact⟨c,rfl,⟨Nat.lt_of_le_of_lt hl (by decide),fun t ht=>(hp t ht).1⟩,fun t ht=>(hp t ht).2.1,fun t ht=>(hp t ht).2.2⟩
def run_VMCode:∀xs,Pw (hH prog0 (cg prog0 Bn 12)) [24,27,9,25,45,57] xs->∃N,Ω N 8 (xs.map .p) []=some (pB true,[]):=by
 intro xs h;obtain⟨x1,r1,rfl,h1,h⟩:=h.cons_inv;obtain⟨x2,r2,rfl,h2,h⟩:=h.cons_inv;obtain⟨x3,r3,rfl,h3,h⟩:=h.cons_inv;obtain⟨x4,r4,rfl,h4,h⟩:=h.cons_inv;obtain⟨x5,r5,rfl,h5,h⟩:=h.cons_inv;obtain⟨x6,r6,rfl,h6,h⟩:=h.cons_inv;obtain rfl:=h.nil_inv;obtain⟨c,rfl,hc,hv,hb⟩:=YU (n:=2) h1;obtain⟨x,rfl,hx⟩:=T_ (n:=7) h2;obtain⟨key,rfl⟩:=U_ (n:=11) h3;obtain⟨fs,rfl,hf⟩:=Ű (n:=8) h4;obtain⟨rp,rfl,hr⟩:=Ċ (n:=9) h5;obtain⟨p5,rfl,hp,_⟩:=V_ (n:=11) h6;exact⟨2000100+1,OD (m:=2000100) c x key fs rp p5 hc hv hb hx hf hr hp (Nat.le_refl _) (Xf (n:=2000099))⟩
end
end Go.Ab
