import Derived.Test.YtgcndlhopflceaaGreatDoorAm0
import Derived.Test.YtgcndlhopflceaaGreatDoorAm2
import Derived.Lib.ItoaNum
import Derived.KernelRfl
set_option linter.all false
namespace Go.Ab
open Go
noncomputable section
section
abbrev R:=Option (D×List Ob)
abbrev K:=Tm->List Ob->R
abbrev KV:=D->List Ob->R
noncomputable section
def ov (tm:Tm)(t:Nat):D:=
 Tm.rec (motive:=fun _=>D) .junk (fun s d _ ih=>Bool.rec (motive:=fun _=>D) ih d (Nat.beq s t)) tm
def f9 (t:Nat):∀tm,ov tm t=get tm t
 | .nil=>rfl
 | .cons s d r=>by
  show Bool.rec (motive:=fun _=>D) (ov r t) d (Nat.beq s t)=bif Nat.beq s t then d else get r t
  rw[f9 t r];cases Nat.beq s t<;>rfl
def Û (tm:Tm)(a:A):D:=
 A.rec (motive:=fun _=>D) (fun n=>ov tm n) (fun x=> .p x) (fun z=> .sl .nil z []) (fun g=> .p (.fn g [])) (fun x=> .ip x 0) a
def WP (tm:Tm)(a:A):Û tm a=ev tm a:=by
 cases a
 ·exact f9 _ tm
 all_goals rfl
def gX (d:D)(e:R)(k:Da->R):R:=
 D.rec (motive_1:=fun _=>R) (motive_2:=fun _=>PUnit.{1})
  (fun x=>k x) (fun _ _=>e) (fun _ _=>e) (fun _ _=>e) (fun _ _ _=>e) (fun _ _=>e) (fun _ _ _ _=>e) (fun _ _ _=>e) (fun _=>e) (fun _ _ _=>e) (fun _ _ _=>e) e ⟨⟩ (fun _ _ _ _=>⟨⟩) d
def rD (x:Da)(e:R)(k:IntKind->Int->R):R:=
 Da.rec (motive_1:=fun _=>R) (motive_2:=fun _=>PUnit.{1})
  (fun _=>e) (fun i n=>k i n) (fun _=>e) (fun _ _=>e) (fun _ _ _=>e) e (fun _ _=>e) (fun _ _ _ _=>e) e (fun _ _ _=>e) e (fun _ _ _=>e) e (fun _ _ _=>e) (fun _ _=>e) ⟨⟩ (fun _ _ _ _=>⟨⟩) x
def rC (x:Da)(e:R)(t f:R):R:=
 Da.rec (motive_1:=fun _=>R) (motive_2:=fun _=>PUnit.{1})
  (fun b=>Bool.rec (motive:=fun _=>R) f t b) (fun _ _=>e) (fun _=>e) (fun _ _=>e) (fun _ _ _=>e) e (fun _ _=>e) (fun _ _ _ _=>e) e (fun _ _ _=>e) e (fun _ _ _=>e) e (fun _ _ _=>e) (fun _ _=>e) ⟨⟩ (fun _ _ _ _=>⟨⟩) x
def pd (x:Da)(e:R)(k:LN->R):R:=
 Da.rec (motive_1:=fun _=>R) (motive_2:=fun _=>PUnit.{1})
  (fun _=>e) (fun _ _=>e) (fun s=>k s) (fun _ _=>e) (fun _ _ _=>e) e (fun _ _=>e) (fun _ _ _ _=>e) e (fun _ _ _=>e) e (fun _ _ _=>e) e (fun _ _ _=>e) (fun _ _=>e) ⟨⟩ (fun _ _ _ _=>⟨⟩) x
def hZ (x:Da)(e:R)(k:Nat->LD->R):R:=
 Da.rec (motive_1:=fun _=>R) (motive_2:=fun _=>PUnit.{1})
  (fun _=>e) (fun _ _=>e) (fun _=>e) (fun _ _=>e) (fun z es _=>k z es) e (fun _ _=>e) (fun _ _ _ _=>e) e (fun _ _ _=>e) e (fun _ _ _=>e) e (fun z es _=>k z es) (fun _ _=>e) ⟨⟩ (fun _ _ _ _=>⟨⟩) x
def caseO {α:Type}(o:Option α)(e:R)(k:α->R):R:=Option.rec (motive:=fun _=>R) e (fun x=>k x) o
def qL (b:Bool)(t e:R):R:=Bool.rec (motive:=fun _=>R) e t b
def lE (b:Bool)(t e:R):qL b t e=bif b then t else e:=by cases b<;>rfl
def bK (b:Bool)(k:D->R):R:=Bool.rec (motive:=fun _=>R) (k (.p (.bool false))) (k (.p (.bool true))) b
def ĭ (b:Bool)(k:D->R):bK b k=k (.p (.bool b)):=by cases b<;>rfl
def df (call:aG)(base:Nat)(o:O)(kk:Nat)(vs:List D)(hp:List Ob)(k:KV):R:=
 bif !(dK o)||cZ (aS hp (base+kk))then
  match pC call base o kk vs (bL o vs hp) ((bL o vs hp).map (aS hp)) hp.length with
  |none=>none
  |some (v,ups,new)=>k v (grow (ao hp ups) new)
 else none
def kc (k:IntKind):Nat:=IntKind.rec (motive:=fun _=>Nat) 0 1 2 3 4 5 6 7 k
def Xk:∀i j:IntKind,Nat.beq (kc i) (kc j)=decide (i=j):=by
 intro i j;cases i<;>cases j<;>rfl
def gq (n:Int)(p q:Nat->R):R:=Int.rec (motive:=fun _=>R) (fun m=>p m) (fun m=>q m) n
def eqK (m n:Int)(k:Bool->R):R:=
 gq m (fun a=>gq n (fun b=>k (Nat.beq a b)) fun _=>k false) fun a=>gq n (fun _=>k false) fun b=>k (Nat.beq a b)
def Ϧ (m n:Int)(k:Bool->R):eqK m n k=k (az m n):=by cases m<;>cases n<;>rfl
def ltK (m n:Int)(k:Bool->R):R:=
 gq m (fun a=>gq n (fun b=>k (Nat.blt a b)) fun _=>k false) fun a=>gq n (fun _=>k true) fun b=>k (Nat.blt b a)
def m_ (m n:Int)(k:Bool->R):ltK m n k=k (aP m n):=by cases m<;>cases n<;>rfl
def lim (i:IntKind):Nat:=IntKind.rec (motive:=fun _=>Nat) 0 0 2147483648 9223372036854775808 256 0 4294967296 18446744073709551616 i
def XQ (i:IntKind)(m:Nat)(k:D->R):R:=qL (Nat.blt m (lim i)) (k (.p (.int i (.ofNat m)))) (k (.p (.int i (aq i (.ofNat m)))))
def NE (i:IntKind)(m:Nat)(h:Nat.blt m (lim i)=true):aq i (.ofNat m)= .ofNat m:=by
 cases i<;>simp only[lim]at h;case i8=>simp_all
 case i16=>simp_all
 case u16=>simp_all
 all_goals simp only[aq,h,cond_true]
def Ă (i:IntKind)(m:Nat)(k:D->R):XQ i m k=k (.p (.int i (aq i (.ofNat m)))):=by
 unfold XQ;cases h:Nat.blt m (lim i)
 ·rfl
 ·rw[NE i m h];rfl
def pK (o:Option Da)(k:D->R):R:=caseO o none fun x=>k (.p x)
def nbK (b:Bool)(k:D->R):R:=Bool.rec (motive:=fun _=>R) (k (.p (.bool true))) (k (.p (.bool false))) b
def XR (b:Bool)(k:D->R):nbK b k=k (.p (.bool (!b))):=by cases b<;>rfl
def Ź (op:BinOp)(i:IntKind)(m n:Int)(e:R)(k:D->R):R:=
 BinOp.rec (motive:=fun _=>R)
  (gq m (fun a=>gq n (fun b=>XQ i (Nat.add a b) k) fun _=>e) fun _=>e)
  (gq m (fun a=>gq n (fun b=>qL (Nat.ble b a) (XQ i (Nat.sub a b) k) e) fun _=>e) fun _=>e)
  (gq m (fun a=>gq n (fun b=>XQ i (Nat.mul a b) k) fun _=>e) fun _=>e)
  e e e e e e e e
  (eqK m n fun b=>bK b k) (eqK m n fun b=>nbK b k) (ltK m n fun b=>bK b k) (ltK n m fun b=>nbK b k) (ltK n m fun b=>bK b k) (ltK m n fun b=>nbK b k) op
def ZC (op:BinOp)(i:IntKind)(m n:Int)(k:D->R):Ź op i m n (pK (bin op (.p (.int i m)) (.p (.int i n))) k) k=pK (bin op (.p (.int i m)) (.p (.int i n))) k:=by
 cases op<;>simp only[Ź,Ϧ,m_,ĭ,XR,Ă];case add=>
  cases m<;>cases n<;>try rfl
  simp[gq,bin,gL,jS,pK,caseO]
 case sub=>
  cases m<;>cases n<;>try rfl
  rename_i a b;simp only[gq,lE];cases h:Nat.ble b a
  ·rfl
  ·have hle:=Nat.le_of_ble_eq_true h;simp only[bin,gL,jS,pK,caseO,if_true];grind
 case mul=>
  cases m<;>cases n<;>try rfl
  simp[gq,bin,gL,jS,pK,caseO]
 all_goals simp[bin,gL,jS,pK,caseO,bw]
def L3 (a:LN):LN->Bool:=
 List.rec (motive:=fun _=>LN->Bool) (fun b=>List.rec (motive:=fun _=>Bool) true (fun _ _ _=>false) b)
  (fun x _ ih b=>List.rec (motive:=fun _=>Bool) false (fun y r _=>Bool.rec (motive:=fun _=>Bool) false (ih r) (Nat.beq x y)) b) a
def DO:∀a b,L3 a b=be a b
 |[],[]=>rfl
 |[],_::_=>rfl
 |_::_,[]=>rfl
 |x::a,y::b=>by
  show Bool.rec (motive:=fun _=>Bool) false (L3 a b) (Nat.beq x y)=bif Nat.beq x y then be a b else false
  rw[DO a b];cases Nat.beq x y<;>rfl
def N_ (op:BinOp)(a b:LN)(e:R)(k:D->R):R:=
 BinOp.rec (motive:=fun _=>R) e e e e e e e e e e e (bK (L3 a b) k) (nbK (L3 a b) k) e e e e op
def Ĕ (op:BinOp)(a b:LN)(k:D->R):N_ op a b (pK (bin op (.p (.str a)) (.p (.str b))) k) k=pK (bin op (.p (.str a)) (.p (.str b))) k:=by
 cases op<;>simp only[N_,ĭ,XR,DO]<;>simp[bin,qy,pK,caseO]
def Zz (op:BinOp)(x y:D)(k:D->R):R:=
 gX x none fun a=>Da.rec (motive_1:=fun _=>R) (motive_2:=fun _=>PUnit.{1})
  (fun _=>none) (fun i m=>gX y none fun b=>rD b (pK (bin op x y) k) fun j n=>qL (Nat.beq (kc i) (kc j)) (Ź op i m n (pK (bin op x y) k) k) (pK (bin op x y) k))
  (fun s=>gX y none fun b=>pd b none fun t=>N_ op s t (pK (bin op x y) k) k)
  (fun _ _=>none) (fun _ _ _=>none) none (fun _ _=>none) (fun _ _ _ _=>none) none (fun _ _ _=>none) none (fun _ _ _=>none) none (fun _ _ _=>none) (fun _ _=>pK (bin op x y) k) ⟨⟩ (fun _ _ _ _=>⟨⟩) a
def Ro (op:BinOp)(a:Da)(y:D)(h:CM a=none)(hs:∀s,a≠ .str s):bin op (.p a) y=none:=by
 cases y<;>try (cases a<;>rfl)
 cases a<;>simp only[CM,reduceCtorEq]at h<;>first
  |rfl
  |simp_all
def ZA (op:BinOp)(x y:D)(k:D->R):Zz op x y k=pK (bin op x y) k:=by
 cases x<;>try rfl
 rename_i a;cases a;case int i m=>
  cases y<;>try rfl
  rename_i b;cases b<;>try rfl
  rename_i j n;show qL (Nat.beq (kc i) (kc j)) _ _=_;rw[Xk,lE];by_cases h:i=j
  ·subst h;simp;exact ZC op i m n k
  ·simp[h]
 case str s=>
  cases y<;>try rfl
  rename_i b;cases b<;>try rfl
  exact Ĕ op s _ k
 case sym i s=>rfl
 all_goals (rw[Ro op _ y rfl (by simp)];rfl)
def X2 (c a b:D)(k:D->R):R:=gX c none fun x=>rC x none (k a) (k b)
def p_ (d:D)(k:D->R):R:=gX d none fun x=>rC x none (k (.p (.bool false))) (k (.p (.bool true)))
def MB {α:Type}(l:List α)(i:Nat)(k:α->R):R:=
 List.rec (motive:=fun _=>Nat->R) (fun _=>none) (fun x _ ih i=>Nat.rec (motive:=fun _=>R) (k x) (fun i _=>ih i) i) l i
def sH {α:Type}(k:α->R):∀(l:List α) (i:Nat),MB l i k=caseO l[i]? none k
 |[],i=>by rfl
 |x::r,0=>rfl
 |x::r,i+1=>by
  show MB r i k=_;rw[sH k r i];simp
def tl {α:Type}(l:List α):List α:=List.rec (motive:=fun _=>List α) [] (fun _ t _=>t) l
def tl4 {α:Type}(l:List α):List α:=tl (tl (tl (tl l)))
def ę {α:Type}(l:List α):List α:=tl4 (tl4 (tl4 (tl4 l)))
def OS {α:Type}(l:List α)(j:Nat):List α:=Nat.rec (motive:=fun _=>List α) l (fun _ ih=>ę ih) j
variable {α:Type}
def Yo (l:List α):tl l=l.drop 1:=by cases l<;>rfl
def Ě (l:List α):ę l=l.drop 16:=by
 simp only[ę,tl4,Yo,mυ]
def yM {α:Type}(l:List α):∀j,OS l j=l.drop (16*j)
 |0=>rfl
 |j+1=>by
  show ę (OS l j)=_;rw[Ě,yM l j,mυ];congr 1
def å {α:Type}(l:List α)(i:Nat)(k:α->R):R:=MB (OS l (Nat.div i 16)) (Nat.mod i 16) k
def Pc (l:List α)(i:Nat)(k:α->R):å l i k=caseO l[i]? none k:=by
 unfold å;rw[sH,yM,List.getElem?_drop];congr 2;exact Nat.div_add_mod i 16
def atK (es:LD)(i:Int)(k:Da->R):R:=gq i (fun j=>å es j k) fun _=>none
def Ŵ (es:LD)(i:Int)(k:Da->R):atK es i k=caseO (bA es i) none k:=by
 cases i with
 |ofNat j=>exact Pc es j k
 |negSucc j=>rfl
def iaK (esz:Nat)(x i:D)(e:R)(k:D->R):R:=
 gX x e fun x=>hZ x none fun z es=>gX i none fun i=>rD i none fun _ i=>qL (Nat.beq z esz) (atK es i fun y=>k (.ip y 0)) none
def ixK (x i:D)(k:D->R):R:=
 gX x none fun x=>pd x none fun s=>gX i none fun i=>rD i none fun _ i=>gq i (fun j=>å s j fun b=>k (.p (.int .u8 (Int.ofNat b)))) fun _=>none
def faK (off:Nat)(d:D)(e:R)(k:D->R):R:=
 D.rec (motive_1:=fun _=>R) (motive_2:=fun _=>PUnit.{1})
  (fun _=>e) (fun _ _=>none) (fun _ _=>none) (fun id o=>k (.box id (o+off))) (fun id i o=>k (.el id i (o+off))) (fun x o=>k (.ip x (o+off)))
  (fun _ _ _ _=>none) (fun _ _ _=>none) (fun _=>none) (fun _ _ _=>none) (fun _ _ _=>none) none ⟨⟩ (fun _ _ _ _=>⟨⟩) d
def XV (d:D)(e:R)(k:D->R):R:=
 D.rec (motive_1:=fun _=>R) (motive_2:=fun _=>PUnit.{1})
  (fun _=>e) (fun _ _=>none) (fun _ _=>none) (fun _ _=>k d) (fun _ _ _=>k d) (fun _ _=>k d)
  (fun _ _ _ _=>none) (fun _ _ _=>none) (fun _=>none) (fun _ _ _=>k d) (fun _ _ _=>k d) none ⟨⟩ (fun _ _ _ _=>⟨⟩) d
def kZ (o:Ob)(e:R)(k:List D->R):R:=
 Ob.rec (motive:=fun _=>R) (fun cs=>k cs) (fun _=>e) (fun _=>e) (fun _ _=>e) (fun _ _=>e) e e (fun _ _=>e) (fun _=>e) (fun _ _=>e) o
def EE (d:D)(hp:List Ob)(e:R)(k:D->R):R:=
 D.rec (motive_1:=fun _=>R) (motive_2:=fun _=>PUnit.{1})
  (fun _=>e) (fun _ _=>none) (fun _ _=>none)
  (fun id off=>MB hp id fun o=>kZ o none fun cs=>MB cs off k)
  (fun _ _ _=>e)
  (fun x off=>MB (cells x) off fun x=>k (.p x))
  (fun _ _ _ _=>none) (fun _ _ _=>none) (fun _=>none) (fun _ _ _=>none) (fun _ _ _=>none) none ⟨⟩ (fun _ _ _ _=>⟨⟩) d
def Ý (i:Nat)(d:D)(k:D->R):R:=
 D.rec (motive_1:=fun _=>R) (motive_2:=fun _=>PUnit.{1})
  (fun _=>none) (fun _ _=>none) (fun ds _=>MB ds i k) (fun _ _=>none) (fun _ _ _=>none) (fun _ _=>none)
  (fun _ _ _ _=>none) (fun _ _ _=>none) (fun _=>none) (fun _ _ _=>none) (fun _ _ _=>none) none ⟨⟩ (fun _ _ _ _=>⟨⟩) d
def IV {α:Type}(l:List α):Nat:=List.rec (motive:=fun _=>Nat) 0 (fun _ _ ih=>Nat.succ ih) l
def ld {α:Type}:∀l:List α,IV l=l.length
 |[]=>rfl
 |_::r=>congrArg Nat.succ (ld r)
def uT (d:D)(k:Nat->R):R:=
 D.rec (motive_1:=fun _=>R) (motive_2:=fun _=>PUnit.{1})
  (fun x=>hZ x none fun _ es=>k (IV es)) (fun _ _=>none) (fun _ _=>none) (fun _ _=>none) (fun _ _ _=>none) (fun _ _=>none) (fun _ _ len _=>k len) (fun _ _ es=>k (IV es)) (fun _=>none) (fun _ _ _=>none) (fun _ _ _=>none) none ⟨⟩ (fun _ _ _ _=>⟨⟩) d
def SY (d:D)(k:Nat->R):uT d k=caseO (sS d) none k:=by
 cases d<;>try rfl
 ·rename_i x;cases x<;>try rfl
  ·simp only[uT,hZ,ld,sS,caseO]
  ·simp only[uT,hZ,ld,sS,caseO]
 ·simp only[uT,ld,sS,caseO]
def ô (n:Nat)(k:D->R):R:=Nat.rec (motive:=fun _=>R) (k (.p (.int .i64 (.ofNat 0)))) (fun m _=>k (.p (.int .i64 (.ofNat (Nat.succ m))))) n
def Pk (n:Nat)(k:D->R):ô n k=k (.p (Cf n)):=by cases n<;>rfl
def d_ (kd:Nat)(d:D)(e:R)(k:D->R):R:=
 Nat.rec (motive:=fun _=>R) (gX d none fun x=>pd x none fun s=>ô (IV s) k)
  (fun j _=>Nat.rec (motive:=fun _=>R) (uT d fun n=>ô n k) (fun _ _=>e) j) kd
def JB (cs:List α)(off:Nat):sub cs off 1=cs[off]?.map fun x=>[x]:=by
 unfold sub;cases h:Nat.ble (off+1) cs.length
 ·have:cs.length<=off:=by
   rcases mα off cs.length with h1|h1
   ·rw[Nat.ble_eq.mpr h1]at h;cases h
   ·exact h1
  simp_all
 ·have h1:off<cs.length:=Nat.ble_eq.mp h;simp[lδ h1,List.take_one,List.head?_drop]
def jb (o:Option fj)(k:D->R):R:=caseO o none fun e=>k e.1
def mo:O->Bool
 | .mv=>true
 | .pick=>true
 | .build _ _=>true
 | .load _ _=>true
 | .nilck=>true
 | .bin _=>true
 | .binB _=>true
 | .binN _ _=>true
 | .binS _ _=>true
 | .un _=>true
 | .conv _=>true
 | .mkif _=>true
 | .mkfn _=>true
 | .slStr _ _=>true
 | .fa _=>true
 | .fld _ _ _=>true
 | .ia _=>true
 | .iaa _ _=>true
 | .ix=>true
 | .lkp _ _ _=>true
 | .ext _=>true
 | .len _=>true
 | .cap=>true
 | .min2=>true
 | .max2=>true
 | .same=>true
 | .assertT _ _ _=>true
 | .b2s=>true
 | .s2b=>true
 |_=>false
def PL (o:Option fj):Prop:=∀e,o=some e->e.2=([],[])
def MY:PL none:=by intro e h;cases h
def SK (d:D):PL (val d):=by intro e h;cases h;rfl
def MZ (o:Option Da):PL (ka o):=by cases o<;>(intro e h;cases h;try rfl)
def ace (kt:TypeDesc)(z:D)(ok:Bool)(ks:LD)(ws:List D)(k:D):PL (f_ kt z ok ks ws k):=by
 unfold f_;repeat' split
 all_goals first
  |exact MY
  |exact SK _
def vH {call:aG}{base kk:Nat}{o:O}{vs:List D}{ids:LN}{obs:List Ob}{len:Nat}(h:mo o=true):PL (pC call base o kk vs ids obs len):=by
 cases o<;>simp only[mo,Bool.false_eq_true]at h<;>
  simp only[pC,W_,BU,qt,gp,qu,Dn,U7,U8,BT,aUn,Od,Oh,Og,HC,mV,Ũ,Hy,Oe,Hz,Zn,HA,Lx,Re,Zm,Of,HB,rx,Ra,Vf]<;>
  (repeat' (first|exact MY|exact SK _|exact MZ _|exact ace _ _ _ _ _ _|split|(simp only[cond_eq_ite])))
def vG {o:O}(h:mo o=true):dK o=false:=by
 cases o<;>simp_all [mo,dK]
section eqs
variable {call:aG} {base kk:Nat} {hp:List Ob} {k:KV}
def cN {o:O}{vs:List D}(h:mo o=true):df call base o kk vs hp k=jb (pC call base o kk vs (bL o vs hp) ((bL o vs hp).map (aS hp)) hp.length) fun v=>k v hp:=by
 have hq:=vH (call:=call) (base:=base) (kk:=kk) (vs:=vs) (ids:=bL o vs hp) (obs:=(bL o vs hp).map (aS hp)) (len:=hp.length) h;simp only[df,vG h,cond_true];cases ha:pC call base o kk vs (bL o vs hp) ((bL o vs hp).map (aS hp)) hp.length with
 |none=>rfl
 |some e=>
  obtain⟨v,ups,new⟩:=e;have:=hq _ ha;obtain⟨rfl,rfl⟩:=this;rfl
def RS {o:Option Da}{k:D->R}:jb (ka o) k=pK o k:=by cases o<;>rfl
def ZD (op:BinOp)(x y:D):df call base (.bin op) kk [x,y] hp k=Zz op x y fun v=>k v hp:=by
 rw[ZA,cN rfl];exact RS
def X5 (c a b:D):df call base .pick kk [c,a,b] hp k=X2 c a b fun v=>k v hp:=by
 cases c<;>try rfl
 rename_i x;cases x<;>try rfl
 rename_i b;cases b<;>rfl
def ă (x:D):df call base (.un .not) kk [x] hp k=p_ x fun v=>k v hp:=by
 cases x<;>try rfl
 rename_i x;cases x<;>try rfl
 rename_i b;cases b<;>rfl
def ϱ (esz:Nat)(x i:D):df call base (.ia esz) kk [x,i] hp k=iaK esz x i (jb (Oe esz [x,i]) fun v=>k v hp) fun v=>k v hp:=by
 rw[cN rfl];show jb (Oe esz [x,i]) (fun v=>k v hp)=_;cases x<;>try rfl
 rename_i x;cases x<;>try rfl
 all_goals
  rename_i z es;cases i<;>try rfl
  rename_i i;cases i<;>try rfl
  rename_i q i;simp only[Oe,iaK,gX,hZ,rD,Ŵ];cases Nat.beq z esz
  ·rfl
  ·cases bA es i<;>rfl
def Ϻ (x i:D):df call base .ix kk [x,i] hp k=ixK x i fun v=>k v hp:=by
 rw[cN rfl];show jb (Zn [x,i]) (fun v=>k v hp)=_;cases x<;>try rfl
 rename_i x;cases x<;>try rfl
 rename_i s;cases i<;>try rfl
 rename_i i;cases i<;>try rfl
 rename_i q i;simp only[Zn,ixK,gX,pd,rD];cases i with
 |negSucc j=>rfl
 |ofNat j=>
  simp only[gq,Pc];have h:(bif bw 0 (Int.ofNat j)then s[(Int.ofNat j).toNat]? else none)=s[j]?:=rfl;rw[h];cases s[j]?<;>rfl
def Ϫ (off:Nat)(x:D):df call base (.fa off) kk [x] hp k=faK off x (jb (Ũ off [x]) fun v=>k v hp) fun v=>k v hp:=by
 rw[cN rfl];cases x<;>rfl
def Su (x:D):df call base .nilck kk [x] hp k=XV x (jb (qu [x]) fun v=>k v hp) fun v=>k v hp:=by
 rw[cN rfl];cases x<;>rfl
def Þ (i:Nat)(x:D):df call base (.ext i) kk [x] hp k=Ý i x fun v=>k v hp:=by
 rw[cN rfl];cases x<;>try rfl
 rename_i ds;show jb (Lx i [.tup ds]) (fun v=>k v hp)=_;simp only[Lx,Ý,sH];cases ds[i]?<;>rfl
def õ (kd:Nat)(x:D):df call base (.len kd) kk [x] hp k=d_ kd x (jb (Re kd [x] (bL (.len kd) [x] hp) ((bL (.len kd) [x] hp).map (aS hp))) fun v=>k v hp) fun v=>k v hp:=by
 rw[cN rfl];match kd with
 |0=>
  cases x<;>try rfl
  rename_i x;cases x<;>try rfl
  simp only[d_,Pk,ld];rfl
 |1=>
  show jb (match sS x with|some n=>val (.p (Cf n))|none=>none) _=uT x fun n=>ô n fun v=>k v hp
  simp only[SY,Pk];cases sS x<;>rfl
 |n+2=>rfl
def Sr (x:D):df call base (.load 1 false) kk [x] hp k=EE x hp (jb (gp 1 false [x] ((dids x).map (aS hp))) fun v=>k v hp) fun v=>k v hp:=by
 rw[cN rfl];cases x<;>try rfl
 ·rename_i id off;show jb (gp 1 false [.box id off] [aS hp id]) (fun v=>k v hp)=_;simp only[EE,sH,gp,aS,mν];cases hp[id]? with
  |none=>rfl
  |some o=>
   cases o<;>try rfl
   rename_i cs;simp only[Option.getD_some,JB,caseO,kZ];cases cs[off]?<;>rfl
 ·rename_i x off;show jb (gp 1 false [.ip x off] []) (fun v=>k v hp)=_;simp only[EE,sH,gp,JB];cases(cells x)[off]?<;>rfl
end eqs
end
end
section
def forceN (m:Nat)(k:Nat->R):R:=Nat.rec (motive:=fun _=>R) (k 0) (fun m _=>k (Nat.succ m)) m
def jJ (m:Nat)(k:Nat->R):forceN m k=k m:=by cases m<;>rfl
def DX (n:Int)(k:Int->R):R:=gq n (fun m=>forceN m fun m=>k (.ofNat m)) fun m=>forceN m fun m=>k (.negSucc m)
def Cd (n:Int)(k:Int->R):DX n k=k n:=by cases n<;>simp only[DX,gq,jJ]
def forceNs (l:LN)(k:LN->R):R:=
 List.rec (motive:=fun _=>(LN->R)->R) (fun k=>k []) (fun x _ ih k=>forceN x fun x=>ih fun r=>k (x::r)) l k
def j1:∀(l:LN) (k:LN->R),forceNs l k=k l
 |[],k=>rfl
 |x::r,k=>by
  show forceN x (fun x=>forceNs r fun r=>k (x::r))=_;rw[jJ,j1 r]
def pj (x:Da)(k:Da->R):R:=
 Da.rec (motive_1:=fun _=>R) (motive_2:=fun _=>PUnit.{1})
  (fun b=>Bool.rec (motive:=fun _=>R) (k (.bool false)) (k (.bool true)) b) (fun i n=>DX n fun n=>k (.int i n)) (fun s=>k (.str s)) (fun cs _=>k (.agg cs)) (fun z es _=>k (.slice z es)) (k .nilptr) (fun x _=>k (.ptr x)) (fun ks vs _ _=>k (.map ks vs)) (k .nilmap) (fun f cs _=>k (.fn f cs)) (k .nilfn) (fun t x _=>k (.iface t x)) (k .nilif) (fun z es _=>k (.sliceE z es)) (fun i s=>k (.sym i s)) ⟨⟩ (fun _ _ _ _=>⟨⟩) x
def qH (x:Da)(k:Da->R):pj x k=k x:=by
 cases x<;>try rfl
 ·rename_i b;cases b<;>rfl
 ·simp only[pj,Cd]
def gf (d:D)(k:D->R):R:=
 D.rec (motive_1:=fun _=>R) (motive_2:=fun _=>PUnit.{1})
  (fun x=>pj x fun x=>k (.p x)) (fun cs _=>k (.agg cs)) (fun ds _=>k (.tup ds)) (fun id off=>forceN id fun id=>forceN off fun off=>k (.box id off)) (fun id i off=>forceN id fun id=>forceN i fun i=>forceN off fun off=>k (.el id i off)) (fun x off=>k (.ip x off))
  (fun id lo len z=>forceN id fun id=>forceN lo fun lo=>forceN len fun len=>k (.arr id lo len z)) (fun g z es=>k (.sl g z es)) (fun id=>forceN id fun id=>k (.map id)) (fun f cs _=>k (.fn f cs)) (fun t d _=>k (.iface t d)) (k .junk) ⟨⟩ (fun _ _ _ _=>⟨⟩) d
def lV (d:D)(k:D->R):gf d k=k d:=by
 cases d<;>simp only[gf,jJ,qH]
def forceTm (tm:Tm)(k:Tm->R):R:=
 Tm.rec (motive:=fun _=>(Tm->R)->R) (fun k=>k .nil) (fun s d _ ih k=>gf d fun d=>ih fun r=>k (.cons s d r)) tm k
def qI:∀(tm:Tm) (k:Tm->R),forceTm tm k=k tm
 | .nil,k=>rfl
 | .cons s d r,k=>by
  show gf d (fun d=>forceTm r fun r=>k (.cons s d r))=_;rw[lV,qI r]
def forceDs (ds:List D)(k:List D->R):R:=
 List.rec (motive:=fun _=>(List D->R)->R) (fun k=>k []) (fun d _ ih k=>gf d fun d=>ih fun r=>k (d::r)) ds k
def gj:∀(ds:List D) (k:List D->R),forceDs ds k=k ds
 |[],k=>rfl
 |d::r,k=>by
  show gf d (fun d=>forceDs r fun r=>k (d::r))=_;rw[lV,gj r]
def rY (ds:LD)(k:LD->R):R:=
 List.rec (motive:=fun _=>(LD->R)->R) (fun k=>k []) (fun d _ ih k=>pj d fun d=>ih fun r=>k (d::r)) ds k
def m6:∀(ds:LD) (k:LD->R),rY ds k=k ds
 |[],k=>rfl
 |d::r,k=>by
  show pj d (fun d=>rY r fun r=>k (d::r))=_;rw[qH,m6 r]
def xh (o:Ob)(k:Ob->R):R:=
 Ob.rec (motive:=fun _=>R) (fun cs=>forceDs cs fun cs=>k (.box cs)) (fun es=>rY es fun es=>k (.arr es)) (fun es=>k (.fz es)) (fun ks vs=>k (.map ks vs)) (fun ks vs=>k (.fzm ks vs)) (k .dead) (k .unborn) (fun ks vs=>forceDs vs fun vs=>k (.mapd ks vs)) (fun es=>k (.byt es)) (fun b es=>k (.may b es)) o
def L9 (o:Ob)(k:Ob->R):xh o k=k o:=by
 cases o<;>simp only[xh,gj,m6]
def pk (hp:List Ob)(k:List Ob->R):R:=
 List.rec (motive:=fun _=>(List Ob->R)->R) (fun k=>k []) (fun o _ ih k=>xh o fun o=>ih fun r=>k (o::r)) hp k
def j0:∀(hp:List Ob) (k:List Ob->R),pk hp k=k hp
 |[],k=>rfl
 |o::r,k=>by
  show xh o (fun o=>pk r fun r=>k (o::r))=_;rw[L9,j0 r]
def xg (o:Ob)(k:Ob->R):R:=
 Ob.rec (motive:=fun _=>R) (fun cs=>forceDs cs fun cs=>k (.box cs)) (fun es=>k (.arr es)) (fun es=>k (.fz es)) (fun ks vs=>k (.map ks vs)) (fun ks vs=>k (.fzm ks vs)) (k .dead) (k .unborn) (fun ks vs=>forceDs vs fun vs=>k (.mapd ks vs)) (fun es=>k (.byt es)) (fun b es=>k (.may b es)) o
def L8 (o:Ob)(k:Ob->R):xg o k=k o:=by
 cases o<;>simp only[xg,gj]
def forceHb (hp:List Ob)(k:List Ob->R):R:=
 List.rec (motive:=fun _=>(List Ob->R)->R) (fun k=>k []) (fun o _ ih k=>xg o fun o=>ih fun r=>k (o::r)) hp k
def jZ:∀(hp:List Ob) (k:List Ob->R),forceHb hp k=k hp
 |[],k=>rfl
 |o::r,k=>by
  show xg o (fun o=>forceHb r fun r=>k (o::r))=_;rw[L8,jZ r]
def þ (l:LN)(x:Nat):Bool:=List.rec (motive:=fun _=>Bool) false (fun y _ ih=>Bool.rec (motive:=fun _=>Bool) ih true (Nat.beq x y)) l
def Ps (x:Nat):∀l,þ l x=l.contains x
 |[]=>rfl
 |y::r=>by
  show Bool.rec (motive:=fun _=>Bool) (þ r x) true (Nat.beq x y)=_;rw[Ps x r,List.contains_cons];have:(x==y)=Nat.beq x y:=by rw[mι,beq_iff_eq,Nat.beq_eq]
  rw[this];cases Nat.beq x y<;>rfl
def PP (l:LN)(x:Nat):LN:=List.rec (motive:=fun _=>LN) [x] (fun y _ ih=>y::ih) l
def Kd (x:Nat):∀l,PP l x=l++[x]
 |[]=>rfl
 |y::r=>by
  show y::PP r x=_;rw[Kd x r];rfl
def Jd (hp:List Ob)(i:Nat):Ob:=List.rec (motive:=fun _=>Nat->Ob) (fun _=> .dead) (fun o _ ih i=>Nat.rec (motive:=fun _=>Ob) o (fun i _=>ih i) i) hp i
def lG:∀(hp:List Ob) (i:Nat),Jd hp i=hp.getD i .dead
 |[],i=>by rfl
 |o::r,0=>rfl
 |o::r,i+1=>by
  show Jd r i=_;rw[lG r i];simp
def B5 (d:D):LN->LN:=
 D.rec (motive_1:=fun _=>LN->LN) (motive_2:=fun _=>LN->LN)
  (fun _ ws=>ws) (fun _ ih ws=>ih ws) (fun _ ih ws=>ih ws) (fun id _ ws=>id::ws) (fun id _ _ ws=>id::ws) (fun _ _ ws=>ws)
  (fun id _ _ _ ws=>id::ws) (fun _ _ _ ws=>ws) (fun id ws=>id::ws) (fun _ _ ih ws=>ih ws) (fun _ _ ih ws=>ih ws) (fun ws=>ws) (fun ws=>ws) (fun _ _ ihd ihr ws=>ihd (ihr ws)) d
def eC (ds:List D)(ws:LN):LN:=List.rec (motive:=fun _=>LN) ws (fun d _ ih=>B5 d ih) ds
mutual
def rL:∀(d:D) (ws:LN),B5 d ws=dids d++ws
 | .p _,ws=>rfl
 | .agg cs,ws=>rN cs ws
 | .tup cs,ws=>rN cs ws
 | .box _ _,ws=>rfl
 | .el _ _ _,ws=>rfl
 | .ip _ _,ws=>rfl
 | .arr _ _ _ _,ws=>rfl
 | .sl _ _ _,ws=>rfl
 | .map _,ws=>rfl
 | .fn _ cs,ws=>rN cs ws
 | .iface _ d,ws=>rL d ws
 | .junk,ws=>rfl
def rN:∀(ds:List D) (ws:LN),D.rec_1 (motive_1:=fun _=>LN->LN) (motive_2:=fun _=>LN->LN)
  (fun _ ws=>ws) (fun _ ih ws=>ih ws) (fun _ ih ws=>ih ws) (fun id _ ws=>id::ws) (fun id _ _ ws=>id::ws) (fun _ _ ws=>ws)
  (fun id _ _ _ ws=>id::ws) (fun _ _ _ ws=>ws) (fun id ws=>id::ws) (fun _ _ ih ws=>ih ws) (fun _ _ ih ws=>ih ws) (fun ws=>ws) (fun ws=>ws) (fun _ _ ihd ihr ws=>ihd (ihr ws)) ds ws=dids.didsL ds++ws
 |[],ws=>rfl
 |d::r,ws=>by
  show B5 d (D.rec_1 (motive_1:=fun _=>LN->LN) (motive_2:=fun _=>LN->LN) _ _ _ _ _ _ _ _ _ _ _ _ _ _ r ws)=_;rw[rL d,rN r];simp only[dids.didsL,mπ]
end
def eW (ws:LN):∀ds,eC ds ws=dids.didsL ds++ws
 |[]=>rfl
 |d::r=>by
  show B5 d (eC r ws)=_;rw[rL,eW ws r];simp only[dids.didsL,mπ]
def zx (o:Ob)(ws:LN):LN:=Ob.rec (motive:=fun _=>LN) (fun cs=>eC cs ws) (fun _=>ws) (fun _=>ws) (fun _ _=>ws) (fun _ _=>ws) ws ws (fun _ vs=>eC vs ws) (fun _=>ws) (fun _ _=>ws) o
def CC (o:Ob)(ws:LN):zx o ws=iS o++ws:=by
 cases o<;>first|rfl|exact eW ws _
def fy (hp:List Ob)(n:Nat):LN->LN->LN:=
 Nat.rec (motive:=fun _=>LN->LN->LN) (fun _ acc=>acc)
  (fun _ ih ws acc=>List.rec (motive:=fun _=>LN) acc (fun id ws _=>Bool.rec (motive:=fun _=>LN) (ih (zx (Jd hp id) ws) (PP acc id)) (ih ws acc) (þ acc id)) ws) n
def dX (hp:List Ob):∀(n:Nat) (ws acc:LN),fy hp n ws acc=cz hp n ws acc
 |0,ws,acc=>rfl
 |n+1,[],acc=>rfl
 |n+1,id::ws,acc=>by
  show Bool.rec (motive:=fun _=>LN) (fy hp n (zx (Jd hp id) ws) (PP acc id)) (fy hp n ws acc) (þ acc id)=_;rw[dX hp n,dX hp n,Ps,Kd,CC,lG];simp only[cz];cases acc.contains id<;>simp
def jd (ids:LN)(id:Nat):Option Nat:=
 List.rec (motive:=fun _=>Nat->Option Nat) (fun _=>none) (fun x _ ih n=>Bool.rec (motive:=fun _=>Option Nat) (ih (Nat.succ n)) (some n) (Nat.beq x id)) ids 0
def jA (ids:LN):jd ids=idx ids:=by
 funext id
 have go:∀(l:LN) (n:Nat),List.rec (motive:=fun _=>Nat->Option Nat) (fun _=>none) (fun x _ ih n=>Bool.rec (motive:=fun _=>Option Nat) (ih (Nat.succ n)) (some n) (Nat.beq x id)) l n=idx.go id l n:=by
  intro l;induction l with
  |nil=>intro n;rfl
  |cons x r ih=>
   intro n;show Bool.rec (motive:=fun _=>Option Nat) _ (some n) (Nat.beq x id)=bif Nat.beq x id then some n else idx.go id r (n+1)
   rw[<-ih (n+1)];cases Nat.beq x id<;>rfl
 exact go ids 0
def gO (σ:Nat->Option Nat)(d:D):D:=
 D.rec (motive_1:=fun _=>D) (motive_2:=fun _=>List D)
  (fun x=> .p x) (fun _ ih=> .agg ih) (fun _ ih=> .tup ih) (fun id off=>Option.rec (motive:=fun _=>D) .junk (fun j=> .box j off) (σ id)) (fun id i off=>Option.rec (motive:=fun _=>D) .junk (fun j=> .el j i off) (σ id)) (fun x off=> .ip x off)
  (fun id lo len z=>Option.rec (motive:=fun _=>D) .junk (fun j=> .arr j lo len z) (σ id)) (fun g z es=> .sl g z es) (fun id=>Option.rec (motive:=fun _=>D) .junk (fun j=> .map j) (σ id)) (fun f _ ih=> .fn f ih) (fun t _ ih=> .iface t ih) .junk [] (fun _ _ ihd ihr=>ihd::ihr) d
def fV (σ:Nat->Option Nat)(ds:List D):List D:=List.rec (motive:=fun _=>List D) [] (fun d _ ih=>gO σ d::ih) ds
mutual
def fZ (σ:Nat->Option Nat):∀(d:D),gO σ d=mapD σ d
 | .p _=>rfl
 | .agg cs=>by show D.agg _=_;rw[sF σ cs];rfl
 | .tup cs=>by show D.tup _=_;rw[sF σ cs];rfl
 | .box id _=>by simp only[gO,mapD];cases σ id<;>rfl
 | .el id _ _=>by simp only[gO,mapD];cases σ id<;>rfl
 | .ip _ _=>rfl
 | .arr id _ _ _=>by simp only[gO,mapD];cases σ id<;>rfl
 | .sl _ _ _=>rfl
 | .map id=>by simp only[gO,mapD];cases σ id<;>rfl
 | .fn _ cs=>by show D.fn _ _=_;rw[sF σ cs];rfl
 | .iface _ d=>by
  show D.iface _ (gO σ d)=_;rw[fZ σ d];rfl
 | .junk=>rfl
def sF (σ:Nat->Option Nat):∀(ds:List D),D.rec_1 (motive_1:=fun _=>D) (motive_2:=fun _=>List D)
  (fun x=> .p x) (fun _ ih=> .agg ih) (fun _ ih=> .tup ih) (fun id off=>Option.rec (motive:=fun _=>D) .junk (fun j=> .box j off) (σ id)) (fun id i off=>Option.rec (motive:=fun _=>D) .junk (fun j=> .el j i off) (σ id)) (fun x off=> .ip x off)
  (fun id lo len z=>Option.rec (motive:=fun _=>D) .junk (fun j=> .arr j lo len z) (σ id)) (fun g z es=> .sl g z es) (fun id=>Option.rec (motive:=fun _=>D) .junk (fun j=> .map j) (σ id)) (fun f _ ih=> .fn f ih) (fun t _ ih=> .iface t ih) .junk [] (fun _ _ ihd ihr=>ihd::ihr) ds=mapD.mapDL σ ds
 |[]=>rfl
 |d::r=>by
  show gO σ d::_=_;rw[sF σ r,fZ σ d];rfl
end
def io (σ:Nat->Option Nat):∀ds,fV σ ds=mapD.mapDL σ ds
 |[]=>rfl
 |d::r=>by
  show gO σ d::fV σ r=_;rw[fZ,io σ r];rfl
def oz (σ:Nat->Option Nat)(o:Ob):Ob:=Ob.rec (motive:=fun _=>Ob) (fun cs=> .box (fV σ cs)) (fun es=> .arr es) (fun es=> .fz es) (fun ks vs=> .map ks vs) (fun ks vs=> .fzm ks vs) .dead .unborn (fun ks vs=> .mapd ks (fV σ vs)) (fun es=> .byt es) (fun b es=> .may b es) o
def Cv (σ:Nat->Option Nat)(o:Ob):oz σ o=ck σ o:=by
 cases o<;>try rfl
 ·simp only[oz,ck,io]
 ·simp only[oz,ck,io]
def ng (ids:LN)(hp:List Ob):List Ob:=List.rec (motive:=fun _=>List Ob) [] (fun i _ ih=>oz (jd ids) (Jd hp i)::ih) ids
def j9 (ids:LN)(hp:List Ob):ng ids hp=bZ ids hp:=by
 have go:∀l:LN,List.rec (motive:=fun _=>List Ob) [] (fun i _ ih=>oz (jd ids) (Jd hp i)::ih) l=l.map fun i=>ck (idx ids) (aS hp i):=by
  intro l;induction l with
  |nil=>rfl
  |cons x r ih=>
   show oz (jd ids) (Jd hp x)::_=_;rw[ih,Cv,jA,lG];rfl
 exact go ids
def nv (σ:Nat->Option Nat)(hp:List Ob):List Ob:=List.rec (motive:=fun _=>List Ob) [] (fun o _ ih=>oz σ o::ih) hp
def lY (σ:Nat->Option Nat):∀hp,nv σ hp=hp.map (ck σ)
 |[]=>rfl
 |o::r=>by
  show oz σ o::nv σ r=_;rw[Cv,lY σ r];rfl
def iF (m:Nat)(hp:List Ob):LN:=List.rec (motive:=fun _=>Nat->LN) (fun _=>[]) (fun o _ ih m=>Nat.rec (motive:=fun _=>LN) [] (fun m _=>zx o (ih m)) m) hp m
def iu:∀(hp:List Ob) (m:Nat),iF m hp=(hp.take m).flatMap iS
 |[],m=>by simp[iF]
 |o::r,0=>rfl
 |o::r,m+1=>by
  show zx o (iF m r)=_;rw[CC,iu r m];simp
def FQ (hp:List Ob)(i:Nat)(o:Ob)(k:List Ob->R):R:=
 List.rec (motive:=fun _=>Nat->(List Ob->R)->R) (fun _ k=>k []) (fun x r ih i k=>Nat.rec (motive:=fun _=>R) (k (o::r)) (fun i _=>ih i fun r=>k (x::r)) i) hp i k
def sQ (o:Ob):∀(hp:List Ob) (i:Nat) (k:List Ob->R),FQ hp i o k=k (j7 hp i o)
 |[],i,k=>by rfl
 |x::r,0,k=>rfl
 |x::r,i+1,k=>by
  show FQ r i o (fun r=>k (x::r))=_;rw[sQ o r i];rfl
def unb (o:Ob)(t:R):R:=Ob.rec (motive:=fun _=>R) (fun _=>none) (fun _=>none) (fun _=>none) (fun _ _=>none) (fun _ _=>none) none t (fun _ _=>none) (fun _=>none) (fun _ _=>none) o
def NA (o:Ob)(t:R):unb o t=bif cZ o then t else none:=by cases o<;>rfl
def PS (l:LN)(n:Nat)(k:LN->R):R:=
 List.rec (motive:=fun _=>Nat->(LN->R)->R) (fun _ k=>k []) (fun x _ ih n k=>Nat.rec (motive:=fun _=>R) (k []) (fun n _=>ih n fun r=>k (x::r)) n) l n k
def Kf:∀(l:LN) (n:Nat) (k:LN->R),PS l n k=k (l.take n)
 |[],n,k=>by simp[PS]
 |x::r,0,k=>rfl
 |x::r,n+1,k=>by
  show PS r n (fun r=>k (x::r))=_;rw[Kf r n];rfl
def tlN {α:Type}(l:List α)(n:Nat):List α:=Nat.rec (motive:=fun _=>List α) l (fun _ ih=>tl ih) n
def Nv {α:Type}(l:List α):∀n,tlN l n=l.drop n
 |0=>rfl
 |n+1=>by
  show tl (tlN l n)=_;rw[Yo,Nv l n,mυ]
def Wq {α:Type}(l:List α)(n:Nat):List α:=tlN (OS l (Nat.div n 16)) (Nat.mod n 16)
variable {α:Type}
def Wr (l:List α)(n:Nat):Wq l n=l.drop n:=by
 unfold Wq;rw[Nv,yM,mυ];congr 1;exact Nat.div_add_mod n 16
def okF (d:D):Bool:=
 D.rec (motive_1:=fun _=>Bool) (motive_2:=fun _=>PUnit.{1})
  (fun _=>true) (fun _ _=>false) (fun _ _=>false) (fun _ _=>true) (fun _ _ _=>true) (fun _ _=>true) (fun _ _ _ _=>true) (fun _ _ _=>true) (fun _=>true) (fun _ _ _=>true) (fun _ _ _=>true) false ⟨⟩ (fun _ _ _ _=>⟨⟩) d
def t_ (d:D):okF d=dw d:=by cases d<;>rfl
def WW (xs:List D)(n:Nat):Bool:=
 List.rec (motive:=fun _=>Nat->Bool) (fun n=>Nat.rec (motive:=fun _=>Bool) true (fun _ _=>false) n) (fun d _ ih n=>Nat.rec (motive:=fun _=>Bool) false (fun m _=>Bool.rec (motive:=fun _=>Bool) false (ih m) (okF d)) n) xs n
def DW:∀(xs:List D) (n:Nat),WW xs n=(Nat.beq xs.length n&&xs.all dw)
 |[],0=>rfl
 |[],n+1=>rfl
 |d::r,0=>rfl
 |d::r,n+1=>by
  show Bool.rec (motive:=fun _=>Bool) false (WW r n) (okF d)=(Nat.beq r.length n&&(dw d&&r.all dw));rw[DW r n,t_];cases dw d<;>simp
def W6 {α:Type}(xs:List α)(n:Nat):Bool:=
 List.rec (motive:=fun _=>Nat->Bool) (fun n=>Nat.rec (motive:=fun _=>Bool) true (fun _ _=>false) n) (fun _ _ ih n=>Nat.rec (motive:=fun _=>Bool) true (fun m _=>ih m) n) xs n
def xi {α:Type}:∀(xs:List α) (n:Nat),W6 xs n=Nat.ble n xs.length
 |[],0=>rfl
 |[],n+1=>rfl
 |d::r,0=>rfl
 |d::r,n+1=>xi r n
def PG (xs:List D):List D->List D:=List.rec (motive:=fun _=>List D->List D) (fun cs=>cs) (fun x _ ih cs=>x::ih (tl cs)) xs
def JE:∀(xs cs:List D),PG xs cs=xs++cs.drop xs.length
 |[],cs=>rfl
 |x::r,cs=>by
  show x::PG r (tl cs)=_;rw[JE r,Yo,mυ];grind
def S4 (cs:List D)(off:Nat)(xs:List D):List D:=
 List.rec (motive:=fun _=>Nat->List D) (fun _=>xs) (fun c r ih off=>Nat.rec (motive:=fun _=>List D) (PG xs (c::r)) (fun o _=>c::ih o) off) cs off
def FX (xs:List D):∀(cs:List D) (off:Nat),S4 cs off xs=splice cs off xs
 |[],off=>by simp[S4,splice]
 |c::r,0=>by
  show PG xs (c::r)=_;rw[JE];simp[splice]
 |c::r,o+1=>by
  show c::S4 r o xs=_;rw[FX xs r o];simp[splice,Nat.add_right_comm]
def XG (cs:LD):List D:=List.rec (motive:=fun _=>List D) [] (fun x _ ih=> .p x::ih) cs
def xp:∀cs,XG cs=cs.map .p
 |[]=>rfl
 |c::r=>by show D.p c::XG r=_;rw[xp r];rfl
def rK (d:D)(k:List D->R):R:=
 D.rec (motive_1:=fun _=>R) (motive_2:=fun _=>PUnit.{1})
  (fun x=>Da.rec (motive_1:=fun _=>R) (motive_2:=fun _=>PUnit.{1})
   (fun _=>k [d]) (fun _ _=>k [d]) (fun _=>k [d]) (fun cs _=>k (XG cs)) (fun _ _ _=>k [d]) (k [d]) (fun _ _=>k [d]) (fun _ _ _ _=>k [d]) (k [d]) (fun _ _ _=>k [d]) (k [d]) (fun _ _ _=>k [d]) (k [d]) (fun _ _ _=>k [d]) (fun _ _=>k [d]) ⟨⟩ (fun _ _ _ _=>⟨⟩) x)
  (fun ds _=>k ds) (fun _ _=>k [d]) (fun _ _=>k [d]) (fun _ _ _=>k [d]) (fun _ _=>k [d]) (fun _ _ _ _=>k [d]) (fun _ _ _=>k [d]) (fun _=>k [d]) (fun _ _ _=>k [d]) (fun _ _ _=>k [d]) (k [d]) ⟨⟩ (fun _ _ _ _=>⟨⟩) d
def yJ (d:D)(k:List D->R):rK d k=k (bH d):=by
 cases d<;>try rfl
 rename_i x;cases x<;>try rfl
 simp only[rK,xp,bH]
def Vh (ds:List D)(e:R)(k:LD->R):R:=
 List.rec (motive:=fun _=>(LD->R)->R) (fun k=>k [])
  (fun d _ ih k=>gX d e fun x=>ih fun xs=>k (x::xs)) ds k
def HE (e:R):∀(ds:List D) (k:LD->R),Vh ds e k=match iO ds with
  |some xs=>k xs
  |none=>e
 |[],k=>rfl
 |d::r,k=>by
  cases d<;>try rfl
  rename_i x;show Vh r e (fun xs=>k (x::xs))=_;rw[HE e r];simp only[iO];grind
def EJ (ds:List D)(k:D->R):R:=Vh ds (k (.agg ds)) fun xs=>k (.p (.agg xs))
def Cy (ds:List D)(k:D->R):EJ ds k=k (zq ds):=by
 simp only[EJ,HE,zq];grind
def WU (ps:List (Nat×Nat)):List D->List D->(List D->R)->R:=
 List.rec (motive:=fun _=>List D->List D->(List D->R)->R)
  (fun cs ds k=>List.rec (motive:=fun _=>R) (k cs) (fun _ _ _=>none) ds)
  (fun p _ ih cs ds k=>List.rec (motive:=fun _=>R) none (fun d ds _=>rK d fun xs=>qL (WW xs p.2) (qL (W6 cs (Nat.add p.1 p.2)) (ih (S4 cs p.1 xs) ds k) none) none) ds) ps
def Ii:∀(ps:List (Nat×Nat)) (cs ds:List D) (k:List D->R),WU ps cs ds k=caseO (pV cs ps ds) none k
 |[],cs,[],k=>rfl
 |[],cs,d::ds,k=>rfl
 |p::ps,cs,[],k=>rfl
 |(off,n)::ps,cs,d::ds,k=>by
  show rK d (fun xs=>qL (WW xs n) (qL (W6 cs (Nat.add off n)) (WU ps (S4 cs off xs) ds k) none) none)=_
  simp only[yJ,DW,xi,FX,Ii ps,pV];have:Nat.add off n=off+n:=rfl;cases Nat.beq (bH d).length n<;>cases(bH d).all dw<;>cases Nat.ble (off+n) cs.length<;>rfl
def Dv (zs:List D)(ps:List (Nat×Nat))(vs:List D)(k:D->R):R:=WU ps zs vs fun cs=>EJ cs k
def Ym {α:Type}(l:List α)(n:Nat)(k:List α->R):R:=
 List.rec (motive:=fun _=>Nat->(List α->R)->R) (fun n k=>Nat.rec (motive:=fun _=>R) (k []) (fun _ _=>none) n) (fun x _ ih n k=>Nat.rec (motive:=fun _=>R) (k []) (fun n _=>ih n fun r=>k (x::r)) n) l n k
def Kg {α:Type}:∀(l:List α) (n:Nat) (k:List α->R),Ym l n k=bif Nat.ble n l.length then k (l.take n)else none
 |[],0,k=>rfl
 |[],n+1,k=>rfl
 |x::r,0,k=>rfl
 |x::r,n+1,k=>by
  show Ym r n (fun r=>k (x::r))=_;rw[Kg r n];rfl
def Nu {α:Type}(l:List α)(off n:Nat)(k:List α->R):R:=qL (W6 l off) (Ym (tlN l off) n k) none
def qV (agg:Bool)(ds:List D)(k:D->R):R:=Bool.rec (motive:=fun _=>R) (List.rec (motive:=fun _=>R) none (fun d r _=>List.rec (motive:=fun _=>R) (k d) (fun _ _ _=>none) r) ds) (EJ ds k) agg
def md (agg:Bool)(ds:List D)(k:D->R):qV agg ds k=caseO (eg agg ds) none k:=by
 cases agg with
 |true=>simp only[qV,Cy,eg,cond_true,caseO]
 |false=>
  match ds with
  |[]=>rfl
  |[d]=>rfl
  |_::_::_=>rfl
def Pn (n:Nat)(agg:Bool)(d:D)(hp:List Ob)(e:R)(k:D->R):R:=
 D.rec (motive_1:=fun _=>R) (motive_2:=fun _=>PUnit.{1})
  (fun _=>e) (fun _ _=>none) (fun _ _=>none)
  (fun id off=>kZ (Jd hp id) none fun cs=>Nu cs off n fun ds=>qV agg ds k)
  (fun _ _ _=>e)
  (fun x off=>Nu (cells x) off n fun xs=>qV agg (XG xs) k)
  (fun _ _ _ _=>none) (fun _ _ _=>none) (fun _=>none) (fun _ _ _=>none) (fun _ _ _=>none) none ⟨⟩ (fun _ _ _ _=>⟨⟩) d
def WX (off n:Nat)(agg:Bool)(d:D)(k:D->R):R:=
 D.rec (motive_1:=fun _=>R) (motive_2:=fun _=>PUnit.{1})
  (fun x=>Da.rec (motive_1:=fun _=>R) (motive_2:=fun _=>PUnit.{1})
   (fun _=>none) (fun _ _=>none) (fun _=>none) (fun cs _=>Nu cs off n fun xs=>qV agg (XG xs) k) (fun _ _ _=>none) none (fun _ _=>none) (fun _ _ _ _=>none) none (fun _ _ _=>none) none (fun _ _ _=>none) none (fun _ _ _=>none) (fun _ _=>none) ⟨⟩ (fun _ _ _ _=>⟨⟩) x)
  (fun ds _=>Nu ds off n fun ds=>qV agg ds k) (fun _ _=>none) (fun _ _=>none) (fun _ _ _=>none) (fun _ _=>none) (fun _ _ _ _=>none) (fun _ _ _=>none) (fun _=>none) (fun _ _ _=>none) (fun _ _ _=>none) none ⟨⟩ (fun _ _ _ _=>⟨⟩) d
def Do (base kk:Nat)(zs:List D)(hp:List Ob)(k:KV):R:=
 forceN (Nat.add base kk) fun id=>unb (Jd hp id) (FQ hp id (.box zs) fun hp=>k (.box id 0) hp)
def ZG (base:Nat)(n kk:Nat)(d:D)(hp:List Ob)(k:KV):R:=
 forceN (Nat.add base kk) fun id=>unb (Jd hp id) (forceDs (bH d) fun cs=>qL ((bif Nat.beq n 1000003 then Nat.beq cs.length 3 else Nat.beq cs.length n&&!b3 cs)&&cs.all dw) (FQ hp id (.box cs) fun hp=>k (.box id 0) hp) none)
def Nr (n:Nat)(a d:D)(hp:List Ob)(e:R)(k:KV):R:=
 D.rec (motive_1:=fun _=>R) (motive_2:=fun _=>PUnit.{1})
  (fun _=>none) (fun _ _=>none) (fun _ _=>none)
  (fun id off=>kZ (Jd hp id) none fun cs=>rK d fun xs=>qL (WW xs n) (qL (W6 cs (Nat.add off n)) (forceDs (S4 cs off xs) fun cs1=>qL (b3 cs1&&!b3 cs) none (FQ hp id (.box cs1) fun hp=>k .junk hp)) none) none)
  (fun _ _ _=>e) (fun _ _=>none)
  (fun _ _ _ _=>none) (fun _ _ _=>none) (fun _=>none) (fun _ _ _=>none) (fun _ _ _=>none) none ⟨⟩ (fun _ _ _ _=>⟨⟩) a
section eqs
variable {call:aG} {base kk:Nat} {hp:List Ob} {k:KV}
def Rg (zs:List D):df call base (.alloc zs) kk [] hp k=Do base kk zs hp k:=by
 simp only[Do,jJ,NA,sQ,lG];rfl
def ZH (n:Nat)(d:D):df call base (.box n) kk [d] hp k=ZG base n kk d hp k:=by
 simp only[ZG,jJ,NA,sQ,lG,gj,lE];show(bif cZ (aS hp (base+kk))then match U9 n base kk [d]with
  |none=>none
  |some (v,ups,new)=>k v (grow (ao hp ups) new)else none)=_
 simp only[U9];have:aS hp (base+kk)=hp.getD (Nat.add base kk) .dead:=rfl;rw[this];cases cZ (hp.getD (Nat.add base kk) .dead)
 ·rfl
 ·cases((bif Nat.beq n 1000003 then Nat.beq (bH d).length 3 else Nat.beq (bH d).length n&&!b3 (bH d))&&(bH d).all dw)<;>rfl
def Ta (n:Nat)(a d:D):df call base (.store n) kk [a,d] hp k=Nr n a d hp (df call base (.store n) kk [a,d] hp k) k:=by
 cases a<;>try rfl
 rename_i id off;simp only[Nr,sQ,lG,gj,yJ,DW,xi,FX];have hn:bL (.store n) [.box id off,d] hp=id::(dids d++[]):=rfl;have hl:eO ((id::(dids d++[])).zip ((id::(dids d++[])).map (aS hp))) id=aS hp id:=by
  simp only[List.map_cons,List.zip_cons_cons,eO,show Nat.beq id id=true from Nat.beq_refl id,cond_true]
 simp only[df,pC,mW,hn,hl];have:aS hp id=hp.getD id .dead:=rfl;rw[this];cases hp.getD id .dead<;>try rfl
 rename_i cs;have h2:Nat.add off n=off+n:=rfl;simp only[kZ,h2];cases Nat.beq (bH d).length n<;>cases(bH d).all dw<;>cases Nat.ble (off+n) cs.length<;>first|rfl|(cases(b3 (splice cs off (bH d))&&!b3 cs)<;>rfl)
def sT (l:List α)(off n:Nat)(f:List α->R):Nu l off n f=caseO (sub l off n) none f:=by
 unfold Nu sub;rw[lE,xi,Nv,Kg,qε];cases h:Nat.ble (off+n) l.length
 ·cases h1:Nat.ble off l.length
  ·rfl
  ·have:Nat.ble n (l.length - off)=false:=by
    rw[<-Bool.not_eq_true,Nat.ble_eq]at h ⊢
    simp_all;omega
   rw[this];rfl
 ·have:=Nat.le_of_ble_eq_true h;rw[Nat.ble_eq.mpr (by omega:off<=l.length),Nat.ble_eq.mpr (by omega:n<=l.length - off)];rfl
def XA (n:Nat)(agg:Bool)(x:D):df call base (.load n agg) kk [x] hp k=Pn n agg x hp (jb (gp n agg [x] ((dids x).map (aS hp))) fun v=>k v hp) fun v=>k v hp:=by
 rw[cN rfl];cases x<;>try rfl
 ·rename_i id off;show jb (gp n agg [.box id off] [aS hp id]) (fun v=>k v hp)=_;simp only[Pn,gp,lG,sT,md];have:aS hp id=hp.getD id .dead:=rfl;rw[this];cases hp.getD id .dead<;>try rfl
  rename_i cs;simp only[kZ];cases sub cs off n with
  |none=>rfl
  |some ds=>
   simp only[caseO];cases eg agg ds<;>rfl
 ·rename_i x off;show jb (gp n agg [.ip x off] []) (fun v=>k v hp)=_;simp only[Pn,gp,sT,md,xp];cases sub (cells x) off n with
  |none=>rfl
  |some ds=>
   simp only[caseO];cases eg agg (ds.map .p)<;>rfl
def ĕ {β:Type}(f:α->β)(l:List α)(off n:Nat):sub (l.map f) off n=(sub l off n).map (List.map f):=by
 unfold sub;rw[lβ];cases Nat.ble (off+n) l.length;all_goals simp_all
def à (off n:Nat)(agg:Bool)(x:D):df call base (.fld off n agg) kk [x] hp k=WX off n agg x fun v=>k v hp:=by
 rw[cN rfl];show jb (Hy off n agg [x]) (fun v=>k v hp)=_;cases x<;>try rfl
 ·rename_i x;cases x<;>try rfl
  rename_i cs;simp only[Hy,WX,sT,md,xp,ĕ];cases sub cs off n with
  |none=>rfl
  |some ds=>
   simp only[Option.map_some,caseO];cases eg agg (ds.map .p)<;>rfl
 ·rename_i cs;simp only[Hy,WX,sT,md];cases sub cs off n with
  |none=>rfl
  |some ds=>
   simp only[caseO];cases eg agg ds<;>rfl
def Rt (zs:List D)(ps:List (Nat×Nat))(vs:List D):df call base (.build zs ps) kk vs hp k=Dv zs ps vs fun v=>k v hp:=by
 rw[cN rfl];show jb (qt zs ps vs) (fun v=>k v hp)=_;simp only[qt,Dv,Ii,Cy];cases pV zs ps vs<;>rfl
end eqs
def ň (n:Nat)(agg:Bool)(x:D)(hp:List Ob)(k:D->R):R:=Pn n agg x hp (jb (gp n agg [x] ((dids x).map (aS hp))) k) k
def FY (call:aG)(base n kk:Nat)(a d:D)(hp:List Ob)(k:KV):R:=
 Nr n a d hp (df call base (.store n) kk [a,d] hp fun v hp=>pk hp fun hp=>k v hp) k
def W1 (call:aG)(base:Nat)(o:O)(kk:Nat)(vs:List D)(hp:List Ob)(k:KV):R:=
 df call base o kk vs hp fun v hp=>gf v fun v=>pk hp fun hp=>k v hp
def D3 (call:aG)(base:Nat)(o:O)(kk:Nat)(vs:List D)(hp:List Ob)(k:KV):W1 call base o kk vs hp k=df call base o kk vs hp k:=by
 simp only[W1,lV,j0]
def S7 (call:aG)(base n kk:Nat)(a d:D)(hp:List Ob)(k:KV):FY call base n kk a d hp k=df call base (.store n) kk [a,d] hp k:=by
 simp only[FY,j0];exact(Ta n a d).symm
def FU (lo hi:Bool)(x:D)(xs:List D)(k:D->R):R:=
 gX x none fun x=>pd x none fun s=>caseO (cu lo hi false (IV s) xs) none fun b=>PS (Wq s b.1) (Nat.sub b.2.1 b.1) fun r=>k (.p (.str r))
variable {kk:Nat}
def S0 {call:aG}{base:Nat}{hp:List Ob}{k:KV}(lo hi:Bool)(x:D)(xs:List D):df call base (.slStr lo hi) kk (x::xs) hp k=FU lo hi x xs fun v=>k v hp:=by
 rw[cN rfl];show jb (mV lo hi (x::xs)) (fun v=>k v hp)=_;cases x<;>try rfl
 rename_i x;cases x<;>try rfl
 rename_i s;simp only[mV,FU,gX,pd,Kf,Wr,ld];cases cu lo hi false s.length xs with
 |none=>rfl
 |some b=>rfl
def w6 (es:LD)(n:Nat)(ys:LD)(e:R)(k:LD->R):R:=
 List.rec (motive:=fun _=>Nat->(LD->R)->R) (fun n k=>Nat.rec (motive:=fun _=>R) (k ys) (fun _ _=>e) n) (fun x _ ih n k=>Nat.rec (motive:=fun _=>R) (k ys) (fun m _=>ih m fun r=>k (x::r)) n) es n k
def yu (ys:LD)(e:R):∀(es:LD) (n:Nat) (k:LD->R),w6 es n ys e k=bif Nat.ble n es.length then k (es.take n++ys)else e
 |[],0,k=>rfl
 |[],n+1,k=>rfl
 |x::r,0,k=>rfl
 |x::r,n+1,k=>by
  show w6 r n ys e (fun r=>k (x::r))=_;rw[yu ys e r];rfl
def OG (o:Ob)(e:R)(k:LD->R):R:=
 Ob.rec (motive:=fun _=>R) (fun _=>e) (fun es=>k es) (fun _=>e) (fun _ _=>e) (fun _ _=>e) e e (fun _ _=>e) (fun _=>e) (fun _ _=>e) o
def yK (esz:Nat)(b:D)(e:R)(k:LD->R):R:=
 D.rec (motive_1:=fun _=>R) (motive_2:=fun _=>PUnit.{1})
  (fun x=>hZ x e fun z es=>qL (Nat.beq z esz) (k es) e) (fun _ _=>e) (fun _ _=>e) (fun _ _=>e) (fun _ _ _=>e) (fun _ _=>e) (fun _ _ _ _=>e) (fun _ z es=>qL (Nat.beq z esz) (k es) e) (fun _=>e) (fun _ _ _=>e) (fun _ _ _=>e) e ⟨⟩ (fun _ _ _ _=>⟨⟩) b
def abl (esz:Nat)(b:D)(os:List (Nat×Ob))(e:R)(k:LD->R):yK esz b e k=e\/∃ys,elems esz os b=some ys/\yK esz b e k=k ys:=by
 cases b<;>try exact .inl rfl
 ·rename_i x;cases x<;>try exact .inl rfl
  all_goals
   simp only[yK,hZ,lE,elems,nm,xE];grind
 ·simp only[yK,lE,elems,nm,xE];grind
def Ů (esz bytes base kk:Nat)(a b:D)(hp:List Ob)(e:R)(k:KV):R:=
 D.rec (motive_1:=fun _=>R) (motive_2:=fun _=>PUnit.{1})
  (fun _=>e) (fun _ _=>e) (fun _ _=>e) (fun _ _=>e) (fun _ _ _=>e) (fun _ _=>e)
  (fun id lo len z=>Nat.rec (motive:=fun _=>R) (qL (Nat.beq z esz) (OG (Jd hp id) e fun es=>yK esz b e fun ys=>w6 es len ys e fun zs=>
   forceN (Nat.add len (IV ys)) fun l=>qL (Nat.ble (Nat.mul (Nat.add (Nat.mul 2 l) 192) bytes) 281474976710656) (qL (Nat.ble (Nat.add (Nat.mul 2 l) 192) 9223372036854775807)
    (forceN (Nat.add base kk) fun i=>unb (Jd hp i) (FQ hp id .dead fun hp=>FQ hp i (.arr zs) fun hp=>k (.arr i 0 l esz) hp)) none) none) e) (fun _ _=>e) lo)
  (fun _ _ _=>e) (fun _=>e) (fun _ _ _=>e) (fun _ _ _=>e) e ⟨⟩ (fun _ _ _ _=>⟨⟩) a
def Zw {call:aG}{base:Nat}{hp:List Ob}{k:KV}(esz bytes:Nat)(a b:D):df call base (.app esz bytes) kk [a,b] hp k=Ů esz bytes base kk a b hp (df call base (.app esz bytes) kk [a,b] hp k) k:=by
 cases a<;>try rfl
 rename_i id lo len z;cases lo with
 |succ lo=>rfl
 |zero=>
  simp only[Ů,lE];cases hz:Nat.beq z esz
  ·rfl
  ·have ho:aS hp id=Jd hp id:=(lG hp id).symm;cases hob:Jd hp id<;>try rfl
   rename_i es;simp only[OG];have hn:bL (.app esz bytes) [.arr id 0 len z,b] hp=id::(dids b++[]):=rfl;have hl:eO ((id::(dids b++[])).zip ((id::(dids b++[])).map (aS hp))) id= .arr es:=by
    simp only[List.map_cons,List.zip_cons_cons,eO,show Nat.beq id id=true from Nat.beq_refl id,cond_true,ho,hob]
   rcases abl esz b ((id::(dids b++[])).zip ((id::(dids b++[])).map (aS hp))) (df call base (.app esz bytes) kk [.arr id 0 len z,b] hp k) (fun ys=>w6 es len ys (df call base (.app esz bytes) kk [.arr id 0 len z,b] hp k) fun zs=>
   forceN (Nat.add len (IV ys)) fun l=>bif Nat.ble (Nat.mul (Nat.add (Nat.mul 2 l) 192) bytes) 281474976710656 then bif Nat.ble (Nat.add (Nat.mul 2 l) 192) 9223372036854775807 then
    (forceN (Nat.add base kk) fun i=>unb (Jd hp i) (FQ hp id .dead fun hp=>FQ hp i (.arr zs) fun hp=>k (.arr i 0 l esz) hp))else none else none)with hy|⟨ys,hy1,hy2⟩
   ·exact hy.symm
   ·rw[hy2,yu];cases hle:Nat.ble len es.length
    ·rfl
    ·have hle':=Nat.le_of_ble_eq_true hle;have hlen:(es.take len).length=len:=by grind
     simp only[jJ,sQ,NA,lG,ld];simp only[df,pC,nB,hn,kY,hl,hz,cond_true,List.drop_zero,hy1,hlen,cond_false];have e1:aS hp (base+kk)=hp.getD (Nat.add base kk) .dead:=rfl;rw[e1];have e2:(2*(len+ys.length)+192)*bytes=Nat.mul (Nat.add (Nat.mul 2 (Nat.add len ys.length)) 192) bytes:=rfl;have e3:2*(len+ys.length)+192=Nat.add (Nat.mul 2 (Nat.add len ys.length)) 192:=rfl;cases cZ (hp.getD (Nat.add base kk) .dead)<;>cases Nat.ble (Nat.mul (Nat.add (Nat.mul 2 (Nat.add len ys.length)) 192) bytes) 281474976710656<;>cases Nat.ble (Nat.add (Nat.mul 2 (Nat.add len ys.length)) 192) 9223372036854775807<;>rfl
def Zs (call:aG)(base esz bytes kk:Nat)(a b:D)(hp:List Ob)(k:KV):R:=
 Ů esz bytes base kk a b hp (W1 call base (.app esz bytes) kk [a,b] hp k) k
def Zt (call:aG)(base esz bytes kk:Nat)(a b:D)(hp:List Ob)(k:KV):Zs call base esz bytes kk a b hp k=df call base (.app esz bytes) kk [a,b] hp k:=by
 unfold Zs;rw[D3];exact(Zw esz bytes a b).symm
def VI (esz:Nat)(d:D)(e:R)(k:D->R):R:=gX d e fun x=>qL (Nat.beq (IV (cells x)) esz) (k (.sl .exact esz [x])) none
def VJ {call:aG}{base:Nat}{hp:List Ob}{k:KV}(esz:Nat)(z:Da)(d:D):df call base (.bsl esz z 1 [0]) kk [d] hp k=VI esz d (df call base (.bsl esz z 1 [0]) kk [d] hp k) fun v=>k v hp:=by
 cases d<;>try rfl
 rename_i x;simp only[VI,gX,ld];have:df call base (.bsl esz z 1 [0]) kk [.p x] hp k=match Rb esz z 1 [0] [.p x] [] []with
  |none=>none
  |some (v,ups,new)=>k v (grow (ao hp ups) new):=rfl
 rw[this];simp only[Rb,pur.purL,pur,List.all_cons,Bool.and_true];cases Nat.beq (cells x).length esz
 ·rfl
 ·rfl
def VG (call:aG)(base esz:Nat)(z:Da)(kk:Nat)(d:D)(hp:List Ob)(k:KV):R:=VI esz d (W1 call base (.bsl esz z 1 [0]) kk [d] hp k) fun v=>k v hp
def VH (call:aG)(base esz:Nat)(z:Da)(kk:Nat)(d:D)(hp:List Ob)(k:KV):VG call base esz z kk d hp k=df call base (.bsl esz z 1 [0]) kk [d] hp k:=by
 unfold VG;rw[D3];exact(VJ esz z d).symm
def ot (d:D)(k:D->R):R:=
 D.rec (motive_1:=fun _=>R) (motive_2:=fun _=>PUnit.{1})
  (fun x=>Da.rec (motive_1:=fun _=>R) (motive_2:=fun _=>PUnit.{1})
   (fun b=>Bool.rec (motive:=fun _=>R) (k (.p (.bool false))) (k (.p (.bool true))) b) (fun i n=>DX n fun n=>k (.p (.int i n))) (fun s=>forceNs s fun s=>k (.p (.str s))) (fun cs _=>rY cs fun cs=>k (.p (.agg cs))) (fun z es _=>rY es fun es=>k (.p (.slice z es))) (k d) (fun _ _=>k d) (fun _ _ _ _=>k d) (k d) (fun _ _ _=>k d) (k d) (fun _ _ _=>k d) (k d) (fun _ _ _=>k d) (fun _ _=>k d) ⟨⟩ (fun _ _ _ _=>⟨⟩) x)
  (fun cs _=>k (.agg cs)) (fun ds _=>forceDs ds fun ds=>k (.tup ds)) (fun _ _=>gf d k) (fun _ _ _=>gf d k) (fun _ _=>k d)
  (fun _ _ _ _=>gf d k) (fun _ _ _=>k d) (fun _=>gf d k) (fun _ _ _=>k d) (fun _ _ _=>k d) (k d) ⟨⟩ (fun _ _ _ _=>⟨⟩) d
def R8 (d:D)(k:D->R):ot d k=k d:=by
 cases d<;>(try rfl)<;>(try (simp only[ot,lV];done))
 ·rename_i x;cases x<;>try rfl
  ·rename_i b;cases b<;>rfl
  ·simp only[ot,Cd]
  ·simp only[ot,j1]
  ·simp only[ot,m6]
  ·simp only[ot,m6]
 ·simp only[ot,gj]
end
section
def oD (vs:List D)(e:R)(k:List D->R):R:=
 List.rec (motive:=fun _=>(List D->R)->R) (fun k=>k [])
  (fun d _ ih k=>D.rec (motive_1:=fun _=>R) (motive_2:=fun _=>PUnit.{1})
   (fun x=>ih fun xs=>k (.p x::xs)) (fun _ _=>e) (fun _ _=>e) (fun _ _=>e) (fun _ _ _=>e) (fun _ _=>e) (fun _ _ _ _=>e) (fun _ _ _=>e) (fun _=>e) (fun _ _ _=>e) (fun _ _ _=>e) e ⟨⟩ (fun _ _ _ _=>⟨⟩) d) vs k
def PK (r:D)(e:R)(k:D->R):R:=
 D.rec (motive_1:=fun _=>R) (motive_2:=fun _=>PUnit.{1})
  (fun x=>k (.p x)) (fun _ _=>e) (fun ds _=>oD ds e fun ds=>k (.tup ds)) (fun _ _=>e) (fun _ _ _=>e) (fun _ _=>e) (fun _ _ _ _=>e) (fun _ _ _=>e) (fun _=>e) (fun _ _ _=>e) (fun _ _ _=>e) e ⟨⟩ (fun _ _ _ _=>⟨⟩) r
def Kt:D->Bool
 | .p _=>true
 |_=>false
def iU (e:R):∀(vs:List D) (k:List D->R),oD vs e k=bif vs.all Kt then k vs else e
 |[],k=>rfl
 |d::r,k=>by
  cases d<;>try rfl
  rename_i x;show oD r e (fun xs=>k (.p x::xs))=_;rw[iU e r];rfl
def zF:D->Bool
 | .p _=>true
 | .tup ds=>ds.all Kt
 |_=>false
def zG (r:D)(e:R)(k:D->R):PK r e k=bif zF r then k r else e:=by
 cases r<;>try rfl
 exact iU _ _ _
def pe:∀{vs:List D},vs.all Kt=true->dids.didsL vs=[]
 |[],_=>rfl
 |d::r,h=>by
  simp only[List.all_cons,lγ]at h;cases d<;>simp only[Kt,Bool.false_eq_true,false_and]at h;simp only[dids.didsL,dids,pe h.2,mξ]
def uL (σ:Nat->Option Nat):∀{vs:List D},vs.all Kt=true->mapD.mapDL σ vs=vs
 |[],_=>rfl
 |d::r,h=>by
  simp only[List.all_cons,lγ]at h;cases d<;>simp only[Kt,Bool.false_eq_true,false_and]at h;simp only[mapD.mapDL,mapD,uL σ h.2]
def uM (σ:Nat->Option Nat){d:D}(h:zF d=true):mapD σ d=d:=by
 cases d<;>simp only[zF,Bool.false_eq_true]at h
 ·rfl
 ·simp only[mapD,uL σ h]
def uN:∀{vs:List D},vs.all Kt=true->vs.map norm=vs
 |[],_=>rfl
 |d::r,h=>by
  simp only[List.all_cons,lγ]at h;cases d<;>simp only[Kt,Bool.false_eq_true,false_and]at h;simp only[List.map_cons,norm,uN h.2]
def VY (call:aG)(f:Nat)(args:List D)(e:R)(k:D->R):R:=
 caseO (call f args []) none fun ro=>Prod.rec (motive:=fun _=>R) (fun r out=>List.rec (motive:=fun _=>R) (PK r e k) (fun _ _ _=>e) out) ro
def BZ (call:aG)(f:Nat)(raw:Bool)(vs:List D)(hp:List Ob)(e:R)(k:D->R):R:=
 oD vs e fun vs=>VY call f vs e k
def vp {call:aG}{f:Nat}{vs:List D}{len:Nat}(h:vs.all Kt=true):eY call f vs [] [] len=match call f vs []with
  |none=>none
  |some (r,out)=>some (mapD (back 0 len [] out.length) r,[],out.map (ck (back 0 len [] out.length))):=by
 unfold eY;rw[uL _ h];rfl
abbrev KF:=D->List Ob->ek->R
section eqs
variable {call:aG} {base kk:Nat} {hp:List Ob} {k:KV}
def B2 (hp:List Ob)(n:Nat)(acc:LN):cz hp n [] acc=acc:=by cases n<;>rfl
def RD {f:Nat}{raw:Bool}{vs:List D}(h:vs.all Kt=true):df call base (.call f raw) kk vs hp k=match call f vs []with
  |none=>none
  |some (r,out)=>k (mapD (back 0 hp.length [] out.length) r) (grow hp (out.map (ck (back 0 hp.length [] out.length)))):=by
 have hn:bL (.call f raw) vs hp=[]:=by simp only[bL,pe h,B2]
 have ha:(bif raw then vs else vs.map norm)=vs:=by cases raw<;>simp[uN h]
 simp only[df,hn,List.map_nil,pC,ha,vp h];cases call f vs []<;>rfl
def VZ (f:Nat)(raw:Bool)(vs:List D):df call base (.call f raw) kk vs hp k=BZ call f raw vs hp (df call base (.call f raw) kk vs hp k) fun v=>k v hp:=by
 unfold BZ;rw[iU];cases h:vs.all Kt
 ·rfl
 ·rw[cond_true,RD h];unfold VY;cases hc:call f vs []with
  |none=>rfl
  |some p=>
   obtain⟨r,out⟩:=p;cases out with
   |cons o out=>rfl
   |nil=>
    simp only[caseO,zG];cases hr:zF r
    ·rfl
    ·rw[uM _ hr];rfl
end eqs
def B1 (call:aG)(f:Nat)(raw:Bool)(vs:List D)(hp:List Ob)(k:KF):R:=
 forceNs (fy hp br (eC vs []) []) fun ids=>
  forceDs (fV (jd ids) (Bool.rec (motive:=fun _=>List D) (vs.map norm) vs raw)) fun args=>forceHb (ng ids hp) fun hp'=>
   caseO (call f args hp') none fun ro=>Prod.rec (motive:=fun _=>R) (fun r out=>qL (Nat.ble ids.length out.length)
    (gf (gO (back ids.length hp.length ids out.length) r) fun v=>forceHb (nv (back ids.length hp.length ids out.length) out) fun out'=>
     forceHb (grow (ao hp (ids.zip out')) (out'.drop ids.length)) fun hp2=>k v hp2 ⟨ids,gV ids hp (ids.zip out'),!(out'.drop ids.length).isEmpty,hp.length⟩) none) ro
variable {kk:Nat}
def HQ {call:aG}{base:Nat}{hp:List Ob}{k:KF}(f:Nat)(raw:Bool)(vs:List D):B1 call f raw vs hp k=bif !(dK (.call f raw))||cZ (aS hp (base+kk))then
  match pC call base (.call f raw) kk vs (bL (.call f raw) vs hp) ((bL (.call f raw) vs hp).map (aS hp)) hp.length with
  |none=>none
  |some (v,ups,new)=>k v (grow (ao hp ups) new) ⟨bif dK (.call f raw)then(base+kk)::bL (.call f raw) vs hp else bL (.call f raw) vs hp,gV (bL (.call f raw) vs hp) hp ups,!new.isEmpty,hp.length⟩
 else none:=by
 have hn:bL (.call f raw) vs hp=cz hp br (dids.didsL vs) []:=rfl;simp only[B1,j1,gj,jZ,lV,dX,eW,mξ,io,jA,j9,fZ,lY,lE,dK,pC,eY,hn];have e:(List.map (ck (idx (cz hp br (dids.didsL vs) []))) (List.map (aS hp) (cz hp br (dids.didsL vs) [])))=bZ (cz hp br (dids.didsL vs) []) hp:=by
  simp;rfl
 have e2:(bif raw then vs else List.map norm vs)=Bool.rec (motive:=fun _=>List D) (vs.map norm) vs raw:=by cases raw<;>rfl
 rw[e,e2];cases call f (mapD.mapDL (idx (cz hp br (dids.didsL vs) [])) (Bool.rec (motive:=fun _=>List D) (vs.map norm) vs raw)) (bZ (cz hp br (dids.didsL vs) []) hp)with
 |none=>rfl
 |some p=>
  simp only[caseO];grind
def OF (call:aG)(f:Nat)(raw:Bool)(vs:List D)(hp:List Ob)(k:KV):R:=
 BZ call f raw vs hp (B1 call f raw vs hp fun v hp _=>k v hp) fun v=>k v hp
def VU {call:aG}{base:Nat}{hp:List Ob}{k:KV}(f:Nat)(raw:Bool)(vs:List D):df call base (.call f raw) kk vs hp k=OF call f raw vs hp k:=by
 rw[VZ];unfold OF;rw[HQ (base:=base) (kk:=kk)];rfl
def iaG (esz:Nat)(x i:D)(k:D->R):R:=iaK esz x i (jb (Oe esz [x,i]) k) k
def faG (off:Nat)(x:D)(k:D->R):R:=faK off x (jb (Ũ off [x]) k) k
def XU (x:D)(k:D->R):R:=XV x (jb (qu [x]) k) k
def aaS (kd:Nat)(x:D)(hp:List Ob)(k:D->R):R:=d_ kd x (jb (Re kd [x] (bL (.len kd) [x] hp) ((bL (.len kd) [x] hp).map (aS hp))) k) k
def Xx (x:D)(hp:List Ob)(k:D->R):R:=EE x hp (jb (gp 1 false [x] ((dids x).map (aS hp))) k) k
def Ľ (o:O)(vs:List D)(hp:List Ob):ek:=⟨bL o vs hp,[],false,hp.length⟩
def aaK (hp:List Ob):ek:=⟨[],[],false,hp.length⟩
def Sd (call:aG)(base:Nat)(o:O)(kk:Nat)(vs:List D)(hp:List Ob)(k:KV):R:=
 match o,vs with
 | .mv,[a]=>k a hp
 | .pick,[c,a,b]=>X2 c a b fun v=>k v hp
 | .bin op,[x,y]=>Zz op x y fun v=>k v hp
 | .un .not,[x]=>p_ x fun v=>k v hp
 | .ia esz,[x,i]=>iaG esz x i fun v=>k v hp
 | .ix,[x,i]=>ixK x i fun v=>k v hp
 | .fa off,[x]=>faG off x fun v=>k v hp
 | .nilck,[x]=>XU x fun v=>k v hp
 | .ext i,[x]=>Ý i x fun v=>k v hp
 | .len kd,[x]=>aaS kd x hp fun v=>k v hp
 | .load 1 false,[x]=>Xx x hp fun v=>k v hp
 | .call f raw,vs=>OF call f raw vs hp k
 | .alloc zs,[]=>Do base kk zs hp k
 | .box n,[d]=>ZG base n kk d hp k
 | .store n,[a,d]=>FY call base n kk a d hp k
 | .slStr lo hi,x::xs=>FU lo hi x xs fun v=>k v hp
 | .load n agg,[x]=>ň n agg x hp fun v=>k v hp
 | .fld off n agg,[x]=>WX off n agg x fun v=>k v hp
 | .build zs ps,vs=>Dv zs ps vs fun v=>k v hp
 | .app esz bytes,[a,b]=>Zs call base esz bytes kk a b hp k
 | .bsl esz z 1 [0],[d]=>VG call base esz z kk d hp k
 |o,vs=>match mo o with
  |true=>df call base o kk vs hp k
  |false=>W1 call base o kk vs hp k
def Xj (call:aG)(base:Nat)(o:O)(kk:Nat)(vs:List D)(hp:List Ob)(k:KV):Sd call base o kk vs hp k=df call base o kk vs hp k:=by
 unfold Sd;split
 ·rfl
 ·exact(X5 _ _ _).symm
 ·exact(ZD _ _ _).symm
 ·exact(ă _).symm
 ·exact(ϱ _ _ _).symm
 ·exact(Ϻ _ _).symm
 ·exact(Ϫ _ _).symm
 ·exact(Su _).symm
 ·exact(Þ _ _).symm
 ·exact(õ _ _).symm
 ·exact(Sr _).symm
 ·exact(VU _ _ _).symm
 ·exact(Rg _).symm
 ·exact(ZH _ _).symm
 ·exact S7 _ _ _ _ _ _ _ _
 ·exact(S0 _ _ _ _).symm
 ·exact(XA _ _ _).symm
 ·exact(à _ _ _ _).symm
 ·exact(Rt _ _ _).symm
 ·exact Zt _ _ _ _ _ _ _ _ _
 ·exact VH _ _ _ _ _ _ _ _
 ·split
  ·rfl
  ·exact D3 _ _ _ _ _ _ _
def D2 (call:aG)(base:Nat)(o:O)(kk:Nat)(vs:List D)(hp:List Ob)(k:KF):R:=
 bif !(dK o)||cZ (aS hp (base+kk))then
  match pC call base o kk vs (bL o vs hp) ((bL o vs hp).map (aS hp)) hp.length with
  |none=>none
  |some (v,ups,new)=>k v (grow (ao hp ups) new) ⟨bif dK o then(base+kk)::bL o vs hp else bL o vs hp,gV (bL o vs hp) hp ups,!new.isEmpty,hp.length⟩
 else none
def HO (call:aG)(f:Nat)(raw:Bool)(vs:List D)(hp:List Ob)(k:KF):R:=
 BZ call f raw vs hp (B1 call f raw vs hp k) fun v=>k v hp (aaK hp)
def VT {call:aG}{base:Nat}{hp:List Ob}{k:KF}(f:Nat)(raw:Bool)(vs:List D):D2 call base (.call f raw) kk vs hp k=HO call f raw vs hp k:=by
 unfold HO BZ;rw[iU,HQ (base:=base) (kk:=kk)];cases h:vs.all Kt
 ·rfl
 ·have hn:bL (.call f raw) vs hp=[]:=by simp only[bL,pe h,B2]
  have ha:(bif raw then vs else vs.map norm)=vs:=by cases raw<;>simp[uN h]
  simp only[D2,hn,List.map_nil,pC,ha,vp h];unfold VY;cases hc:call f vs []with
  |none=>rfl
  |some p=>
   obtain⟨r,out⟩:=p;cases out with
   |cons o out=>rfl
   |nil=>
    simp only[caseO,zG];cases hr:zF r
    ·rfl
    ·rw[uM _ hr];rfl
def zb (call:aG)(base:Nat)(o:O)(kk:Nat)(vs:List D)(hp:List Ob)(k:KF):R:=
 match o with
 | .call f raw=>HO call f raw vs hp k
 |o=>match mo o with
  |true=>Sd call base o kk vs hp fun v hp'=>k v hp' (Ľ o vs hp)
  |false=>D2 call base o kk vs hp k
def í (call:aG)(base:Nat)(o:O)(kk:Nat)(vs:List D)(hp:List Ob)(k:KF):zb call base o kk vs hp k=D2 call base o kk vs hp k:=by
 unfold zb;split
 ·exact(VT _ _ _).symm
 ·split
  ·rename_i hs;rw[Xj,cN hs];have hq:=vH (call:=call) (base:=base) (kk:=kk) (vs:=vs) (ids:=bL o vs hp) (obs:=(bL o vs hp).map (aS hp)) (len:=hp.length) hs;simp only[D2,vG hs,cond_false];cases ha:pC call base o kk vs (bL o vs hp) ((bL o vs hp).map (aS hp)) hp.length with
   |none=>rfl
   |some e=>
    obtain⟨v,ups,new⟩:=e;have:=hq _ ha;obtain⟨rfl,rfl⟩:=this;rfl
  ·rfl
def D5 (d:D)(want:Bool)(t e:R):R:=
 D.rec (motive_1:=fun _=>R) (motive_2:=fun _=>PUnit.{1})
  (fun x=>rC x none (Bool.rec (motive:=fun _=>R) e t want) (Bool.rec (motive:=fun _=>R) t e want))
  (fun _ _=>none) (fun ds _=>List.rec (motive:=fun _=>R) e (fun _ _ _=>none) ds) (fun _ _=>none) (fun _ _ _=>none) (fun _ _=>none) (fun _ _ _ _=>none) (fun _ _ _=>none) (fun _=>none) (fun _ _ _=>none) (fun _ _ _=>none) none ⟨⟩ (fun _ _ _ _=>⟨⟩) d
def W3 (d:D)(want:Bool):Option Bool:=
 match d with
 | .p (.bool b)=>some (b==want)
 | .tup []=>some false
 |_=>none
def Cg (d:D)(want:Bool)(t e:R):D5 d want t e=match W3 d want with
  |none=>none
  |some true=>t
  |some false=>e:=by
 cases d<;>try rfl
 ·rename_i x;cases x<;>try rfl
  rename_i b;cases b<;>cases want<;>rfl
 ·rename_i ds;cases ds<;>rfl
def sf {x:eH}(tm:Tm)(h:x.gd=none):dj x tm=some true:=by simp[dj,h]
def sh {x:eH}(tm:Tm){g:Nat}{w:Bool}(h:x.gd=some (g,w)):dj x tm=W3 (get tm g) w:=by
 unfold dj;rw[h];rfl
def gG (d:D)(want:Bool)(run:KV->R)(hp:List Ob)(k:KV):R:=D5 d want (run k) (k (.tup []) hp)
def gF (d:D)(want:Bool)(run:KF->R)(hp:List Ob)(k:KF):R:=D5 d want (run k) (k (.tup []) hp ⟨[],[],false,0⟩)
def gdO (gd:Option (Nat×Bool))(tm:Tm)(run:KV->R)(hp:List Ob)(k:KV):R:=
 match gd with
 |none=>run k
 |some (g,w)=>gG (ov tm g) w run hp k
def gdF (gd:Option (Nat×Bool))(tm:Tm)(run:KF->R)(hp:List Ob)(k:KF):R:=
 match gd with
 |none=>run k
 |some (g,w)=>gF (ov tm g) w run hp k
def sE (tm:Tm)(as:List A):List D:=List.rec (motive:=fun _=>List D) [] (fun a _ ih=>Û tm a::ih) as
def EH (tm:Tm):∀as,sE tm as=as.map (ev tm)
 |[]=>rfl
 |a::r=>by
  show Û tm a::sE tm r=_;rw[WP,EH tm r];rfl
def D7 (call:aG)(base:Nat)(ops:List eH):Tm->List Ob->K->R:=
 List.rec (motive:=fun _=>Tm->List Ob->K->R) (fun tm hp k=>k tm hp)
  (fun x _ ih tm hp k=>gdO x.gd tm (fun k=>Sd call base x.op x.k (sE tm x.as) hp k) hp fun v hp=>ih (put x.dst v tm) hp k) ops
def Pf (call:aG)(base:Nat):∀(ops:List eH) (tm:Tm) (hp:List Ob) (k:K),D7 call base ops tm hp k=match lb call base ops ⟨tm,hp⟩with
  |none=>none
  |some st=>k st.tm st.hp
 |[],tm,hp,k=>rfl
 |x::r,tm,hp,k=>by
  have step:∀v hp',D7 call base r (put x.dst v tm) hp' k=match lb call base r ⟨put x.dst v tm,hp'⟩with
   |none=>none
   |some st=>k st.tm st.hp:=fun v hp'=>Pf call base r _ _ _
  have run:(Sd call base x.op x.k (sE tm x.as) hp fun v hp=>D7 call base r (put x.dst v tm) hp k)=match (match pG call base x ⟨tm,hp⟩with
    |none=>none
    |some (st',_)=>lb call base r st')with
   |none=>none
   |some st=>k st.tm st.hp:=by
   rw[Xj,EH];simp only[df,pG,ħ,XT];grind
  show gdO x.gd tm (fun k=>Sd call base x.op x.k (sE tm x.as) hp k) hp (fun v hp=>D7 call base r (put x.dst v tm) hp k)=_;simp only[lb,gdO];cases hg:x.gd with
  |none=>rw[sf tm hg];exact run
  |some p=>
   rw[sh tm hg];simp only[gG,Cg,f9];grind
def sr (call:aG)(base:Nat)(ops:List eH):Tm->List Ob->List ek->(Tm->List Ob->List ek->R)->R:=
 List.rec (motive:=fun _=>Tm->List Ob->List ek->(Tm->List Ob->List ek->R)->R) (fun tm hp fs k=>k tm hp fs.reverse)
  (fun x _ ih tm hp fs k=>gdF x.gd tm (fun k=>zb call base x.op x.k (sE tm x.as) hp k) hp fun v hp f=>ih (put x.dst v tm) hp (f::fs) k) ops
def Iu (call:aG)(base:Nat):∀(ops:List eH) (tm:Tm) (hp:List Ob) (fs:List ek) (k:Tm->List Ob->List ek->R),sr call base ops tm hp fs k=match eD call base ops ⟨tm,hp⟩ fs with
  |none=>none
  |some (st,fs)=>k st.tm st.hp fs
 |[],tm,hp,fs,k=>rfl
 |x::r,tm,hp,fs,k=>by
  have step:∀v hp' f,sr call base r (put x.dst v tm) hp' (f::fs) k=match eD call base r ⟨put x.dst v tm,hp'⟩ (f::fs)with
   |none=>none
   |some (st,fs)=>k st.tm st.hp fs:=fun v hp' f=>Iu call base r _ _ _ _
  have run:(zb call base x.op x.k (sE tm x.as) hp fun v hp f=>sr call base r (put x.dst v tm) hp (f::fs) k)=match (match pG call base x ⟨tm,hp⟩with
    |none=>none
    |some (st',f)=>eD call base r st' (f::fs))with
   |none=>none
   |some (st,fs)=>k st.tm st.hp fs:=by
   rw[í,EH];simp only[D2,pG,ħ,XT];grind
  show gdF x.gd tm (fun k=>zb call base x.op x.k (sE tm x.as) hp k) hp (fun v hp f=>sr call base r (put x.dst v tm) hp (f::fs) k)=_;simp only[eD,gdF];cases hg:x.gd with
  |none=>rw[sf tm hg];exact run
  |some p=>
   rw[sh tm hg];simp only[gF,Cg,f9];grind
end
abbrev Sem:=aG->Nat->Nat->Tm->List Ob->K->(Nat->K)->K->R
noncomputable section
def OI (d:D)(t e:R):R:=gX d none fun x=>rC x none t e
def j2 (out:LN)(tm:Tm):Tm:=List.rec (motive:=fun _=>Tm) .nil (fun s _ ih=> .cons s (ov tm s) ih) out
def zc (tm:Tm):∀out,j2 out tm=fB out id tm
 |[]=>rfl
 |s::r=>by
  show Tm.cons s (ov tm s) (j2 r tm)=_;rw[f9,zc tm r];rfl
def se (nal:Nat)(hp:List Ob):List Ob:=Nat.rec (motive:=fun _=>List Ob) hp (fun n _=>grow hp (List.replicate (n+1) .unborn)) nal
def Ip (nal:Nat)(hp:List Ob):se nal hp=grow hp (List.replicate nal .unborn):=by cases nal<;>rfl
def DY (d:D)(e:R)(k:D->R):R:=
 D.rec (motive_1:=fun _=>R) (motive_2:=fun _=>PUnit.{1})
  (fun x=>pj x fun x=>k (.p x)) (fun _ _=>e) (fun _ _=>e) (fun _ _=>e) (fun _ _ _=>e) (fun x off=>k (.ip x off))
  (fun _ _ _ _=>e) (fun g z es=>k (.sl g z es)) (fun _=>e) (fun _ _ _=>e) (fun _ _ _=>e) (k .junk) ⟨⟩ (fun _ _ _ _=>⟨⟩) d
def lD:D->Bool
 | .p _=>true
 | .ip _ _=>true
 | .sl _ _ _=>true
 | .junk=>true
 |_=>false
def R7 (d:D)(e:R)(k:D->R):DY d e k=bif lD d then k d else e:=by
 cases d<;>try rfl
 simp only[DY,qH,lD,cond_true]
def Fj (live:LN)(tm:Tm)(e:R)(k:Tm->R):R:=
 List.rec (motive:=fun _=>(Tm->R)->R) (fun k=>k .nil) (fun s _ ih k=>DY (ov tm s) e fun d=>ih fun r=>k (.cons s d r)) live k
def CH (tm:Tm)(e:R):∀(live:LN) (k:Tm->R),Fj live tm e k=bif live.all (fun s=>lD (get tm s))then k (fB live id tm)else e
 |[],k=>rfl
 |s::r,k=>by
  show DY (ov tm s) e (fun d=>Fj r tm e fun r=>k (.cons s d r))=_;rw[R7,CH tm e r,f9];simp only[fB,id];grind
def ϭ (m:Nat)(g:Gh)(tm:Tm)(hp:List Ob)(k:K):R:=caseO (fK m g ⟨tm,hp⟩) none fun st=>forceTm st.tm fun tm=>forceHb st.hp fun hp=>k tm hp
def W2 (m:Nat)(g:Gh)(tm:Tm)(hp:List Ob)(k:K):ϭ m g tm hp k=caseO (fK m g ⟨tm,hp⟩) none fun st=>k st.tm st.hp:=by
 unfold ϭ;congr 1;funext st;rw[qI,jZ]
def EC (live:LN)(tm:Tm)(ws:LN):LN:=List.rec (motive:=fun _=>LN) ws (fun s _ ih=>B5 (ov tm s) ih) live
def zm (tm:Tm)(ws:LN):∀live,EC live tm ws=dids.didsL (live.map (get tm))++ws
 |[]=>rfl
 |s::r=>by
  show B5 (ov tm s) (EC r tm ws)=_;rw[rL,zm tm ws r,f9];simp only[List.map_cons,dids.didsL,mπ]
def D8 (f:D->D)(live:LN)(tm:Tm):Tm:=List.rec (motive:=fun _=>Tm) .nil (fun s _ ih=> .cons s (f (ov tm s)) ih) live
def zg (f:D->D)(tm:Tm):∀live,D8 f live tm=fB live f tm
 |[]=>rfl
 |s::r=>by
  show Tm.cons s (f (ov tm s)) (D8 f r tm)=_;rw[f9,zg f tm r];rfl
def Ck (m:Nat)(live:LN)(tm:Tm)(hp:List Ob)(k:K):R:=
 forceNs (fy hp br (EC live tm (iF m hp)) (List.range m)) fun ids=>
  forceTm (D8 (gO (jd ids)) live tm) fun tm=>forceHb (ng ids hp) fun hp=>k tm hp
def zf (m:Nat)(live:LN)(tm:Tm)(hp:List Ob)(k:K):Ck m live tm hp k=caseO (fK m (.keep live) ⟨tm,hp⟩) none fun st=>k st.tm st.hp:=by
 simp only[Ck,j1,qI,jZ,dX,zm,iu,zg,j9,jA,fK,caseO];have:∀ids,gO (idx ids)=mapD (idx ids):=fun ids=>funext fun d=>fZ _ d
 simp_all
def Xm (m:Nat)(live:LN)(tm:Tm)(hp:List Ob)(k:K):R:=
 List.rec (motive:=fun _=>R) (Nat.rec (motive:=fun _=>R) (Fj live tm (Ck m live tm hp k) fun tm=>k tm []) (fun _ _=>Ck m live tm hp k) m) (fun _ _ _=>Ck m live tm hp k) hp
def I0 (σ:Nat->Option Nat){d:D}(h:lD d=true):mapD σ d=d:=by
 cases d<;>simp_all [lD,mapD]
def H1 {d:D}(h:lD d=true):dids d=[]:=by
 cases d<;>simp_all [lD,dids]
def rM:∀{ds:List D},ds.all lD=true->dids.didsL ds=[]
 |[],_=>rfl
 |d::r,h=>by
  simp only[List.all_cons,lγ]at h;simp only[dids.didsL,H1 h.1,rM h.2,mξ]
def pW (σ:Nat->Option Nat)(tm:Tm):∀{live:LN},live.all (fun s=>lD (get tm s))=true->fB live (mapD σ) tm=fB live id tm
 |[],_=>rfl
 |s::r,h=>by
  simp only[List.all_cons,lγ]at h;simp only[fB,I0 σ h.1,pW σ tm h.2,id]
def Xn (m:Nat)(live:LN)(tm:Tm)(hp:List Ob)(k:K):Xm m live tm hp k=caseO (fK m (.keep live) ⟨tm,hp⟩) none fun st=>k st.tm st.hp:=by
 cases hp with
 |cons o r=>exact zf _ _ _ _ _
 |nil=>
  cases m with
  |succ m=>exact zf _ _ _ _ _
  |zero=>
   show Fj live tm (Ck 0 live tm [] k) (fun tm=>k tm [])=_;rw[CH,zf];cases h:live.all (fun s=>lD (get tm s))
   ·rfl
   ·have hd:dids.didsL (live.map (get tm))=[]:=rM (by simp_all);simp only[fK,hd,caseO];rw[pW _ tm h];rfl
def Cs (m:Nat)(live:LN)(body:Tm->List Ob->K->R)(bl:Nat)(tm:Tm)(hp:List Ob):R:=
 Nat.rec (motive:=fun _=>Tm->List Ob->R) (fun _ _=>none) (fun _ ih tm hp=>Xm m live tm hp fun tm hp=>body tm hp ih) bl tm hp
def Ō:Sem:=fun _ _ _ tm hp kn _ _=>kn tm hp
def aa4:Sem:=fun _ _ _ tm hp _ _ kr=>kr tm hp
def Ĺ (id:Nat):Sem:=fun _ _ _ tm hp _ ke _=>ke id tm hp
def ab9 (a b:Sem):Sem:=fun c n m tm hp kn ke kr=>a c n m tm hp (fun tm hp=>b c n m tm hp kn ke kr) ke kr
def aar (x:A)(t e:Sem):Sem:=fun c n m tm hp kn ke kr=>OI (Û tm x) (t c n m tm hp kn ke kr) (e c n m tm hp kn ke kr)
def ź (id:Nat)(b:Sem):Sem:=fun c n m tm hp kn ke kr=>b c n m tm hp kn (fun i tm hp=>qL (Nat.beq i id) (kn tm hp) (ke i tm hp)) kr
def aaU (live:LN)(b:Sem):Sem:=fun c n m tm hp _ ke kr=>Cs m live (fun tm hp k=>b c n m tm hp k ke kr) n tm hp
def pM (m:Nat)(g:Gh)(k:K):K:=match SJ g with|some h=>fun tm hp=>ϭ m h tm hp k|none=>k
def ghS (g:Gh)(b:Sem):Sem:=fun c n m tm hp kn ke kr=>ϭ m g tm hp fun tm hp=>b c n m tm hp (pM m g kn) (fun i=>pM m g (ke i)) (pM m g kr)
def ab6 (nal:Nat)(f:aG->Nat->Tm->List Ob->K->R):Sem:=fun c _ _ tm hp kn _ _=>f c hp.length tm (se nal hp) kn
def ab5 (nal:Nat)(ps:List (Nat×Nat))(f:aG->Nat->Tm->List Ob->(Tm->List Ob->List ek->R)->R):Sem:=fun c _ _ tm hp kn _ _=>f c hp.length tm (se nal hp) fun tm hp fs=>qL (fx fs ps) (kn tm hp) none
def aa2 (nal:Nat)(ops:List eH)(prs:Option (List (Nat×Nat)))(out:LN):Sem:=
 match prs with
 |none=>ab6 nal fun call base tm hp k=>D7 call base ops tm hp fun tm hp=>k (j2 out tm) hp
 |some ps=>ab5 nal ps fun call base tm hp k=>sr call base ops tm hp [] fun tm hp fs=>k (j2 out tm) hp fs
def RO (c:Co):Sem:=
 Co.rec (motive:=fun _=>Sem) Ō (fun nal ops prs out=>aa2 nal ops prs out) (fun _ _ a b=>ab9 a b) (fun c _ _ t e=>aar c t e) (fun id _ b=>ź id b) (fun live _ b=>aaU live b) (fun id=>Ĺ id) aa4 (fun g _ c=>ghS g c) c
def uO (r:Option (Ex×St))(kn:K)(ke:Nat->K)(kr:K):R:=
 match r with
 |none=>none
 |some (.norm,st)=>kn st.tm st.hp
 |some (.exit i,st)=>ke i st.tm st.hp
 |some (.ret,st)=>kr st.tm st.hp
def IY {m:Nat}{live:LN}{body:St->Option (Ex×St)}{bodyK:Tm->List Ob->K->(Nat->K)->K->R}{ke:Nat->K}{kr kn:K}(hb:∀tm hp kn,bodyK tm hp kn ke kr=uO (body ⟨tm,hp⟩) kn ke kr):∀(bl:Nat) (tm:Tm) (hp:List Ob),Cs m live (fun tm hp k=>bodyK tm hp k ke kr) bl tm hp=uO (uI m body live bl ⟨tm,hp⟩) kn ke kr
 |0,tm,hp=>rfl
 |n+1,tm,hp=>by
  show Xm m live tm hp (fun tm hp=>bodyK tm hp (Cs m live (fun tm hp k=>bodyK tm hp k ke kr) n) ke kr)=_;rw[Xn];simp only[uI];cases fK m (.keep live) ⟨tm,hp⟩with
  |none=>rfl
  |some st=>
   show bodyK st.tm st.hp (Cs m live (fun tm hp k=>bodyK tm hp k ke kr) n) ke kr=_;rw[hb];show uO (body st) _ ke kr=uO (match body st with
    |some (.norm,st')=>uI m body live n st'
    |r=>r) kn ke kr
   cases body st with
   |none=>rfl
   |some p=>
    obtain⟨ex,st'⟩:=p;cases ex with
    |norm=>exact IY hb n _ _
    |exit i=>rfl
    |ret=>rfl
def ċ (m:Nat)(g:Gh)(o:Option (Ex×St))(kn:K)(ke:Nat->K)(kr:K):uO o (pM m g kn) (fun i=>pM m g (ke i)) (pM m g kr)=uO (Fi m g o) kn ke kr:=by
 unfold pM Fi;cases SJ g with
 |none=>rfl
 |some h=>
  cases o with
  |none=>rfl
  |some p=>
   obtain⟨ex,st⟩:=p;cases ex<;>simp only[uO,W2]<;>cases fK m h st<;>rfl
def og (call:aG)(bl m:Nat):∀(c:Co) (tm:Tm) (hp:List Ob) (kn:K) (ke:Nat->K) (kr:K),RO c call bl m tm hp kn ke kr=uO (cm call bl m c ⟨tm,hp⟩) kn ke kr
 | .skip,tm,hp,kn,ke,kr=>rfl
 | .ret,tm,hp,kn,ke,kr=>rfl
 | .exit i,tm,hp,kn,ke,kr=>rfl
 | .reg nal ops none out,tm,hp,kn,ke,kr=>by
  show D7 call hp.length ops tm (se nal hp) (fun tm hp=>kn (j2 out tm) hp)=_;rw[Pf,Ip];simp only[cm,rV];cases lb call hp.length ops ⟨tm,grow hp (List.replicate nal .unborn)⟩with
  |none=>rfl
  |some st=>simp only[uO,zc]
 | .reg nal ops (some ps) out,tm,hp,kn,ke,kr=>by
  show sr call hp.length ops tm (se nal hp) [] (fun tm hp fs=>qL (fx fs ps) (kn (j2 out tm) hp) none)=_;rw[Iu,Ip];simp only[cm,rV];cases eD call hp.length ops ⟨tm,grow hp (List.replicate nal .unborn)⟩ []with
  |none=>rfl
  |some p=>
   obtain⟨st,fs⟩:=p;simp only[lE];cases fx fs ps
   ·rfl
   ·simp only[uO,cond_true,zc]
 | .seq a b,tm,hp,kn,ke,kr=>by
  show RO a call bl m tm hp (fun tm hp=>RO b call bl m tm hp kn ke kr) ke kr=_;rw[og call bl m a];simp only[cm];cases cm call bl m a ⟨tm,hp⟩with
  |none=>rfl
  |some p=>
   obtain⟨ex,st⟩:=p;cases ex with
   |norm=>exact og call bl m b _ _ _ _ _
   |exit i=>rfl
   |ret=>rfl
 | .cond c t e,tm,hp,kn,ke,kr=>by
  show OI (Û tm c) (RO t call bl m tm hp kn ke kr) (RO e call bl m tm hp kn ke kr)=_;rw[og call bl m t,og call bl m e,WP];simp only[cm];cases ev tm c<;>try rfl
  rename_i x;cases x<;>try rfl
  rename_i b;cases b<;>rfl
 | .block id b,tm,hp,kn,ke,kr=>by
  show RO b call bl m tm hp kn (fun i tm hp=>qL (Nat.beq i id) (kn tm hp) (ke i tm hp)) kr=_;rw[og call bl m b];simp only[cm];cases cm call bl m b ⟨tm,hp⟩with
  |none=>rfl
  |some p=>
   obtain⟨ex,st⟩:=p;cases ex with
   |norm=>rfl
   |ret=>rfl
   |exit i=>
    simp only[uO,lE];cases Nat.beq i id<;>rfl
 | .loop live b,tm,hp,kn,ke,kr=>IY (fun tm hp kn=>og call bl m b tm hp kn ke kr) bl tm hp
 | .gh g c,tm,hp,kn,ke,kr=>by
  show ϭ m g tm hp (fun tm hp=>RO c call bl m tm hp (pM m g kn) (fun i=>pM m g (ke i)) (pM m g kr))=_;rw[W2];simp only[cm];cases fK m g ⟨tm,hp⟩with
  |none=>rfl
  |some st=>exact(og call bl m c _ _ _ _ _).trans (ċ m g _ kn ke kr)
def Ce (hp:List Ob):∀{ds:List D},ds.all Kt=true->rZ hp ds=(ds,hp)
 |[],_=>rfl
 |d::r,h=>by
  simp only[List.all_cons,lγ]at h;cases d<;>simp only[Kt,Bool.false_eq_true,false_and]at h;have e:rZ hp r=(r,hp):=Ce hp h.2;simp only[rZ,dids,List.map_nil,pur,dn,ao,e]
def R6 (m:Nat)(ds:List D)(hp:List Ob):R:=
 forceNs (fy hp br (eC ds (iF m hp)) (List.range m)) fun ids=>ot (gO (jd ids) (one ds)) fun r=>forceHb (ng ids hp) fun out=>some (r,out)
def R5 (m:Nat)(fz:Bool)(ds:List D)(hp:List Ob):R:=
 oD ds (Bool.rec (motive:=fun _=>R) (R6 m ds hp) (Prod.rec (motive:=fun _=>R) (fun ds hp=>R6 m ds hp) (rZ hp ds)) fz)
  fun ds=>Nat.rec (motive:=fun _=>R) (some (one ds,[])) (fun _ _=>R6 m ds hp) m
def DV (m:Nat)(ds:List D)(hp:List Ob):R6 m ds hp=some (mapD (idx (cz hp br (dids.didsL ds++(hp.take m).flatMap iS) (List.range m))) (one ds),bZ (cz hp br (dids.didsL ds++(hp.take m).flatMap iS) (List.range m)) hp):=by
 simp only[R6,j1,R8,jZ,dX,eW,iu,fZ,jA,j9]
def xf (m:Nat)(fz:Bool)(ds:List D)(hp:List Ob):R5 m fz ds hp=some (mw m fz ds hp):=by
 unfold R5;rw[iU];cases h:ds.all Kt
 ·cases fz with
  |false=>exact DV m ds hp
  |true=>
   simp;exact DV _ _ _
 ·have e:(bif fz then rZ hp ds else(ds,hp))=(ds,hp):=by cases fz<;>simp[Ce hp h]
  cases m with
  |succ m=>
   show R6 (m+1) ds hp=_;rw[DV];simp only[mw,e]
  |zero=>
   have hp1:zF (one ds)=true:=by
    unfold one;split
    ·rename_i d;cases d<;>simp_all [Kt,zF]
    ·exact h
   simp only[mw,e,pe h,List.range_zero];rw[uM _ hp1];rfl
def rvK (tm:Tm)(hp:List Ob)(r:Rv)(k:D->R):R:=
 Rv.rec (motive:=fun _=>R) (fun n=>k (ov tm n)) (fun a n agg=>D.rec (motive_1:=fun _=>R) (motive_2:=fun _=>PUnit.{1})
  (fun _=>none) (fun _ _=>none) (fun _ _=>none) (fun id off=>kZ (Jd hp id) none fun cs=>Nu cs off n fun ds=>qV agg ds k) (fun _ _ _=>none) (fun _ _=>none) (fun _ _ _ _=>none) (fun _ _ _=>none) (fun _=>none) (fun _ _ _=>none) (fun _ _ _=>none) none ⟨⟩ (fun _ _ _ _=>⟨⟩) (ov tm a)) r
def F_ (tm:Tm)(hp:List Ob)(r:Rv)(k:D->R):rvK tm hp r k=caseO (Ig ⟨tm,hp⟩ r) none k:=by
 cases r with
 |t n=>simp only[rvK,Ig,f9,caseO]
 |cell a n agg=>
  simp only[rvK,Ig,f9,lG,sT,md];cases get tm a<;>try rfl
  rename_i id off;have:aS hp id=hp.getD id .dead:=rfl;simp only[this];cases hp.getD id .dead<;>try rfl
  rename_i cs;simp only[kZ];cases sub cs off n<;>rfl
def SV (tm:Tm)(hp:List Ob)(rs:List Rv)(k:List D->R):R:=
 List.rec (motive:=fun _=>(List D->R)->R) (fun k=>k []) (fun r _ ih k=>rvK tm hp r fun d=>ih fun ds=>k (d::ds)) rs k
def PN (tm:Tm)(hp:List Ob):∀(rs:List Rv) (k:List D->R),SV tm hp rs k=caseO (jW ⟨tm,hp⟩ rs) none k
 |[],k=>rfl
 |r::rs,k=>by
  show rvK tm hp r (fun d=>SV tm hp rs fun ds=>k (d::ds))=_;rw[F_];simp only[PN tm hp rs,jW];cases Ig ⟨tm,hp⟩ r with
  |none=>rfl
  |some d=>
   cases jW ⟨tm,hp⟩ rs<;>rfl
def Bb (b:Sem)(call:aG)(n:Nat)(res:List Rv)(fz:Bool)(args:List D)(hp:List Ob):R:=
 b call n hp.length (eR args 0) hp (fun tm hp'=>SV tm hp' res fun ds=>R5 hp.length fz ds hp') (fun _ _ _=>none) (fun tm hp'=>SV tm hp' res fun ds=>R5 hp.length fz ds hp')
def xA (call:aG)(bl:Nat)(x:Fx)(args:List D)(hp:List Ob):Bb (RO x.body) call bl x.res x.fz args hp=eS call bl x args hp:=by
 unfold Bb eS oG;simp only[PN];rw[og];cases cm call bl hp.length x.body ⟨eR args 0,hp⟩with
 |none=>rfl
 |some p=>
  obtain⟨ex,st⟩:=p;cases ex with
  |norm=>
   simp only[uO,xf];cases jW st x.res<;>rfl
  |ret=>
   simp only[uO,xf];cases jW st x.res<;>rfl
  |exit i=>rfl
inductive Hn where
 |code (b:Sem) (res:List Rv) (fz:Bool)
 |prim (g:LD->Option (D×List Ob))
 |both (g:LD->Option (D×List Ob)) (b:Sem) (res:List Rv) (fz:Bool)
 |any (g:List D->List Ob->Option (D×List Ob))
def hn (tab:Option Hn)(ih:aG)(n:Nat)(args:List D)(hp:List Ob):R:=
 Option.rec (motive:=fun _=>R) none (fun h=>Hn.rec (motive:=fun _=>R) (fun b res fz=>Bb b ih n res fz args hp) (fun g=>match iO args with
   |some xs=>match hp with
    |[]=>g xs
    |_=>none
   |none=>none) (fun g b res fz=>match iO args with
   |some xs=>match hp with
    |[]=>g xs
    |_=>Bb b ih n res fz args hp
   |none=>Bb b ih n res fz args hp) (fun g=>g args hp) h) tab
def R3 (tab:Nat->Option Hn)(n:Nat):aG:=
 Nat.rec (motive:=fun _=>aG) (fun _ _ _=>none) (fun n ih f args hp=>hn (tab f) ih n args hp) n
def same (a:Option Hn)(b:Option Fn):Prop:=
 match a,b with
 |none,none=>True
 |some (.code g res fz),some (.code x)=>RO x.body=g/\x.res=res/\x.fz=fz
 |some (.prim g),some (.prim h)=>g=h
 |some (.both g b res fz),some (.both h x)=>g=h/\RO x.body=b/\x.res=res/\x.fz=fz
 |some (.any g),some (.any h)=>g=h
 |_,_=>False
def WR {tabH:Nat->Option Hn}{tab:Nat->Option Fn}(h:∀f,same (tabH f) (tab f)):∀n,R3 tabH n=evFn tab n
 |0=>by rfl
 |n+1=>by
  funext f args hp
  show hn (tabH f) (R3 tabH n) n args hp=_;rw[WR h n];have hf:=h f;simp only[evFn,a_];cases h1:tabH f with
  |none=>
   rw[h1]at hf;cases h2:tab f with
   |none=>rfl
   |some x=>rw[h2]at hf;cases x<;>exact hf.elim
  |some a=>
   rw[h1]at hf;cases h2:tab f with
   |none=>rw[h2]at hf;cases a<;>exact hf.elim
   |some x=>
    rw[h2]at hf;cases a with
    |code g res fz=>
     cases x with
     |code x=>
      obtain⟨h3,rfl,rfl⟩:=hf;show Bb g (evFn tab n) n x.res x.fz args hp=_;rw[<-h3,xA]
     |prim q=>exact hf.elim
     |both q x=>exact hf.elim
     |any q=>exact hf.elim
    |prim g=>
     cases x with
     |code x=>exact hf.elim
     |prim q=>obtain rfl:g=q:=hf;rfl
     |both q x=>exact hf.elim
     |any q=>exact hf.elim
    |both g b res fz=>
     cases x with
     |code x=>exact hf.elim
     |prim q=>exact hf.elim
     |both q x=>
      obtain⟨rfl,h3,rfl,rfl⟩:=hf;show(match iO args with
       |some xs=>match hp with
        |[]=>g xs
        |_=>Bb b (evFn tab n) n x.res x.fz args hp
       |none=>Bb b (evFn tab n) n x.res x.fz args hp)=_
      rw[<-h3,xA];rfl
     |any q=>exact hf.elim
    |any g=>
     cases x with
     |code x=>exact hf.elim
     |prim q=>exact hf.elim
     |both q x=>exact hf.elim
     |any q=>obtain rfl:g=q:=hf;rfl
def ϴ (b:Bool)(x y:Option Hn):Option Hn:=Bool.rec (motive:=fun _=>Option Hn) y x b
def CL {b:Bool}{x y:Option Hn}{x' y':Option Fn}(h:same x x')(k:same y y'):same (ϴ b x y) (bif b then x' else y'):=by
 cases b
 ·exact k
 ·exact h
end
section
def qw (a b:Bool):Bool:=Bool.rec (motive:=fun _=>Bool) false b a
def rz (a b:Bool):qw a b=(a&&b):=by cases a<;>rfl
def abk (y:Da)(k:IntKind->Int->Bool):Bool:=
 Da.rec (motive_1:=fun _=>Bool) (motive_2:=fun _=>PUnit.{1}) (fun _=>false) (fun i n=>k i n) (fun _=>false) (fun _ _=>false) (fun _ _ _=>false) false (fun _ _=>false) (fun _ _ _ _=>false) false (fun _ _ _=>false) false (fun _ _ _=>false) false (fun _ _ _=>false) (fun _ _=>false) ⟨⟩ (fun _ _ _ _=>⟨⟩) y
def abm (y:Da)(k:LN->Bool):Bool:=
 Da.rec (motive_1:=fun _=>Bool) (motive_2:=fun _=>PUnit.{1}) (fun _=>false) (fun _ _=>false) (fun s=>k s) (fun _ _=>false) (fun _ _ _=>false) false (fun _ _=>false) (fun _ _ _ _=>false) false (fun _ _ _=>false) false (fun _ _ _=>false) false (fun _ _ _=>false) (fun _ _=>false) ⟨⟩ (fun _ _ _ _=>⟨⟩) y
def abj (y:Da)(k:LD->Bool):Bool:=
 Da.rec (motive_1:=fun _=>Bool) (motive_2:=fun _=>PUnit.{1}) (fun _=>false) (fun _ _=>false) (fun _=>false) (fun cs _=>k cs) (fun _ _ _=>false) false (fun _ _=>false) (fun _ _ _ _=>false) false (fun _ _ _=>false) false (fun _ _ _=>false) false (fun _ _ _=>false) (fun _ _=>false) ⟨⟩ (fun _ _ _ _=>⟨⟩) y
def YB (y:Da)(k:Nat->LD->Bool):Bool:=
 Da.rec (motive_1:=fun _=>Bool) (motive_2:=fun _=>PUnit.{1}) (fun _=>false) (fun _ _=>false) (fun _=>false) (fun _ _=>false) (fun z es _=>k z es) false (fun _ _=>false) (fun _ _ _ _=>false) false (fun _ _ _=>false) false (fun _ _ _=>false) false (fun _ _ _=>false) (fun _ _=>false) ⟨⟩ (fun _ _ _ _=>⟨⟩) y
def P2 (y:Da)(k:Nat->LD->Bool):Bool:=
 Da.rec (motive_1:=fun _=>Bool) (motive_2:=fun _=>PUnit.{1}) (fun _=>false) (fun _ _=>false) (fun _=>false) (fun _ _=>false) (fun _ _ _=>false) false (fun _ _=>false) (fun _ _ _ _=>false) false (fun _ _ _=>false) false (fun _ _ _=>false) false (fun z es _=>k z es) (fun _ _=>false) ⟨⟩ (fun _ _ _ _=>⟨⟩) y
def WJ (m n:Int):Bool:=Int.rec (motive:=fun _=>Bool) (fun a=>Int.rec (motive:=fun _=>Bool) (fun b=>Nat.beq a b) (fun _=>false) n) (fun a=>Int.rec (motive:=fun _=>Bool) (fun _=>false) (fun b=>Nat.beq a b) n) m
def Ô {m n:Int}(h:WJ m n=true):m=n:=by
 cases m<;>cases n<;>simp only[WJ,Bool.false_eq_true]at h;all_goals simp_all
def Ic:∀{a b:LN},be a b=true->a=b
 |[],[],_=>rfl
 |[],_::_,h=>by simp[be]at h
 |_::_,[],h=>by simp[be]at h
 |x::a,y::b,h=>by
  simp only[be]at h;cases hx:Nat.beq x y
  ·simp_all
  ·simp only[hx,cond_true]at h;rw[lκ hx,Ic h]
def Ó (x:Da):Da->Bool:=
 Da.rec (motive_1:=fun _=>Da->Bool) (motive_2:=fun _=>LD->Bool)
  (fun _ _=>false) (fun i n y=>abk y fun j m=>qw (Nat.beq (kc i) (kc j)) (WJ n m)) (fun s y=>abm y fun t=>L3 s t) (fun _ ih y=>abj y ih) (fun z _ ih y=>YB y fun z' es'=>qw (Nat.beq z z') (ih es'))
  (fun _=>false) (fun _ _ _=>false) (fun _ _ _ _ _=>false) (fun _=>false) (fun _ _ _ _=>false) (fun _=>false) (fun _ _ _ _=>false) (fun _=>false) (fun z _ ih y=>P2 y fun z' es'=>qw (Nat.beq z z') (ih es')) (fun _ _ _=>false)
  (fun ys=>List.rec (motive:=fun _=>Bool) true (fun _ _ _=>false) ys) (fun _ _ ihd ihr ys=>List.rec (motive:=fun _=>Bool) false (fun y ys _=>qw (ihd y) (ihr ys)) ys) x
def H9 (xs:LD):LD->Bool:=
 List.rec (motive:=fun _=>LD->Bool) (fun ys=>List.rec (motive:=fun _=>Bool) true (fun _ _ _=>false) ys) (fun x _ ih ys=>List.rec (motive:=fun _=>Bool) false (fun y ys _=>qw (Ó x y) (ih ys)) ys) xs
mutual
def OW:∀(x y:Da),Ó x y=true->x=y
 | .bool _,y,h=>absurd (show false=true from h) Bool.false_ne_true
 | .int i n,y,h=>by
  cases y<;>try exact absurd (show false=true from h) Bool.false_ne_true
  rename_i j m;have h':qw (Nat.beq (kc i) (kc j)) (WJ n m)=true:=h;rw[rz,Xk,lγ,lε]at h';rw[h'.1,Ô h'.2]
 | .str s,y,h=>by
  cases y<;>try exact absurd (show false=true from h) Bool.false_ne_true
  rename_i t;have h':L3 s t=true:=h;rw[DO]at h';rw[Ic h']
 | .agg cs,y,h=>by
  cases y<;>try exact absurd (show false=true from h) Bool.false_ne_true
  rename_i cs';rw[xc cs cs' h]
 | .slice z es,y,h=>by
  cases y<;>try exact absurd (show false=true from h) Bool.false_ne_true
  rename_i z' es';have h':qw (Nat.beq z z') _=true:=h;rw[rz,lγ]at h';rw[lκ h'.1,xc es es' h'.2]
 | .nilptr,y,h=>absurd (show false=true from h) Bool.false_ne_true
 | .ptr _,y,h=>absurd (show false=true from h) Bool.false_ne_true
 | .map _ _,y,h=>absurd (show false=true from h) Bool.false_ne_true
 | .nilmap,y,h=>absurd (show false=true from h) Bool.false_ne_true
 | .fn _ _,y,h=>absurd (show false=true from h) Bool.false_ne_true
 | .nilfn,y,h=>absurd (show false=true from h) Bool.false_ne_true
 | .iface _ _,y,h=>absurd (show false=true from h) Bool.false_ne_true
 | .nilif,y,h=>absurd (show false=true from h) Bool.false_ne_true
 | .sliceE z es,y,h=>by
  cases y<;>try exact absurd (show false=true from h) Bool.false_ne_true
  rename_i z' es';have h':qw (Nat.beq z z') _=true:=h;rw[rz,lγ]at h';rw[lκ h'.1,xc es es' h'.2]
 | .sym _ _,y,h=>absurd (show false=true from h) Bool.false_ne_true
def xc:∀(xs ys:LD),Da.rec_1 (motive_1:=fun _=>Da->Bool) (motive_2:=fun _=>LD->Bool)
  (fun _ _=>false) (fun i n y=>abk y fun j m=>qw (Nat.beq (kc i) (kc j)) (WJ n m)) (fun s y=>abm y fun t=>L3 s t) (fun _ ih y=>abj y ih) (fun z _ ih y=>YB y fun z' es'=>qw (Nat.beq z z') (ih es'))
  (fun _=>false) (fun _ _ _=>false) (fun _ _ _ _ _=>false) (fun _=>false) (fun _ _ _ _=>false) (fun _=>false) (fun _ _ _ _=>false) (fun _=>false) (fun z _ ih y=>P2 y fun z' es'=>qw (Nat.beq z z') (ih es')) (fun _ _ _=>false)
  (fun ys=>List.rec (motive:=fun _=>Bool) true (fun _ _ _=>false) ys) (fun _ _ ihd ihr ys=>List.rec (motive:=fun _=>Bool) false (fun y ys _=>qw (ihd y) (ihr ys)) ys) xs ys=true->xs=ys
 |[],[],_=>rfl
 |[],_::_,h=>by cases h
 |_::_,[],h=>by cases h
 |x::xs,y::ys,h=>by
  have h':qw (Ó x y) _=true:=h;rw[rz,lγ]at h';rw[OW x y h'.1,xc xs ys h'.2]
end
def Ia:∀{xs ys:LD},H9 xs ys=true->xs=ys
 |[],[],_=>rfl
 |[],_::_,h=>by cases h
 |_::_,[],h=>by cases h
 |x::xs,y::ys,h=>by
  have h':qw (Ó x y) (H9 xs ys)=true:=h;rw[rz,lγ]at h';rw[OW x y h'.1,Ia h'.2]
def memo (l:List (LD×R))(xs:LD):R:=
 List.rec (motive:=fun _=>R) none (fun p _ ih=>Bool.rec (motive:=fun _=>R) ih p.2 (H9 p.1 xs)) l
def I1:∀{l:List (LD×R)} {xs:LD} {ro:D×List Ob},memo l xs=some ro->∃p∈l,p.1=xs/\p.2=some ro
 |[],xs,ro,h=>by cases h
 |p::l,xs,ro,h=>by
  have h':Bool.rec (motive:=fun _=>R) (memo l xs) p.2 (H9 p.1 xs)=some ro:=h;cases he:H9 p.1 xs
  ·rw[he]at h';obtain⟨q,h1,h2⟩:=I1 (l:=l) h';grind
  ·rw[he]at h';exact⟨p,lη ..,Ia he,h'⟩
variable [Letters]
def Cw (l:List (LD×R))(call:aG)(f:Nat)(xs:LD):R:=
 Option.rec (motive:=fun _=>R) (call f (xs.map .p) []) (fun r=>some r) (memo l xs)
theorem zo {P:Program}{G:bY}{call:aG}(hc:ez P G call){f:Nat}{l:List (LD×R)}(h:∀p∈l,p.2=none\/call f (p.1.map .p) []=p.2):fp P G f (Cw l call f):=by
 intro xs r out hm;have hcall:call f (xs.map .p) []=some (r,out):=by
  unfold Cw at hm;cases hq:memo l xs with
  |none=>simp_all
  |some ro=>
   rw[hq]at hm;obtain⟨p,hp,hx,hr⟩:=I1 hq;grind
 obtain⟨c1,c2⟩:=hc f _ [] _ _ hcall;refine⟨c1,fun w S vs hS hg hv=>?_⟩
 exact c2 [] w S vs ⟨rfl,by simp,by rintro b ⟨id,l,o,h,_⟩;simp at h,by simp,hS⟩ hg (Pw.map_left (by simpa only[VR]using hv))
end
def iV (n bytes:Nat):Bool:=Nat.ble ((2*(0+n)+192)*bytes) 281474976710656&&Nat.ble (2*(0+n)+192) 9223372036854775807
def jK (z bytes:Nat):LD->Option (D×List Ob)
 |[.slice z' es]=>bif Nat.beq z' z&&iV es.length bytes then some (.p (.slice z es),[])else none
 |_=>none
def fD (z bytes:Nat):LD->Option (D×List Ob)
 |[.slice z' es]=>bif Nat.beq z' z&&iV es.length bytes then some (.arr 0 0 es.length z,[.arr es])else none
 |_=>none
def za (n:Int):LN:=(Lib.itoa n).map UInt8.toNat
def mg:LD->Option (D×List Ob)
 |[.int .i64 n]=>bif bw (-9223372036854775808) n&&bw n 9223372036854775807 then some (.p (.str (za n)),[])else none
 |_=>none
section
variable [Letters]
def sM {P : Program} {G : bY} {call : aG} (hcall : ez P G call) (hmix : P.follows .mixedOrders = true) {raw : Nat → Bool} {f bl : Nat} {fn : Func} {x : Fx} (hf : P.funcs[f]? = some fn) (hx : AR P G raw fn x) (hn : (fn.name == "runtime.NumGoroutine") = false)
  {g:LD->Option (D×List Ob)} (h:∀xs r out,g xs=some (r,out)->∃z es,xs=[.slice z es]/\(es=[]->eS call bl x [.sl .na z []] []=some (r,out))/\eS call bl x [.sl .some z es] []=some (r,out)):fp P G f g:=by
 intro xs r out hg;obtain⟨z,es,rfl,h1,h2⟩:=h xs r out hg;refine⟨⟨fn,hf,?_,hn⟩,fun w S vs hS hgr hv=>?_⟩
 ·cases hb:fn.body with
  |none=>obtain⟨h4,_⟩:=hx;simp_all
  |some c=>rfl
 ·obtain⟨v,us,rfl,hv1,hv2⟩:=hv.cons_inv;obtain rfl:=hv2.nil_inv;have hr:HR [] w S []:=⟨rfl,by simp,by rintro b ⟨id,l,o,h,_⟩;simp at h,by simp,hS⟩
  have hv3:=hv1;obtain⟨a,cap,us,rfl,k1,k2,k3⟩:=hv3;cases a with
  |none=>
   have hus:us=[]:=by
    simp_all
   subst hus;have hes:es=[]:=by
    have:=(PRs_iff.1 k2).1;simp_all
   have hvr:VR [] w S (.sl .na z []) (.slice none 0 cap):=by
    exact⟨none,cap,[],rfl,by simp,by rfl,by rfl,by simp⟩
   exact ľ hcall hmix hf hx (h1 hes) hr hgr (Pw.cons hvr Pw.nil)
  |some a=>
   have hvr:VR [] w S (.sl .some z es) (.slice (some a) us.length cap):=by
    exact⟨some a,cap,us,rfl,k1,by simp[gZ],k2,k3⟩
   exact ľ hcall hmix hf hx h2 hr hgr (Pw.cons hvr Pw.nil)
def Py {P:Program}{G:bY}:ez P G (fun _ _ _=>none):=by intro f ds hp r out h;cases h
theorem V4 {P : Program} {G : bY} (hmix : P.follows .mixedOrders = true) {raw : Nat → Bool} {f : Nat} {fn : Func} {x : Fx} (hf : P.funcs[f]? = some fn) (hx : AR P G raw fn x) (hn : (fn.name == "runtime.NumGoroutine") = false) {z bytes : Nat}
  (h0:eS (fun _ _ _=>none) 0 x [.sl .na z []] []=some (.p (.slice z []),[]))
  (h1:eS (fun _ _ _=>none) 0 x [.sl .some z []] []=some (.p (.slice z []),[]))
  (h2:∀e es,eS (fun _ _ _=>none) 0 x [.sl .some z (e::es)] []=bif iV (es.length+1) bytes then some (.p (.slice z ((e::es).take (0+(es.length+1)))),[])else none):fp P G f (jK z bytes):=by
 refine sM Py hmix (bl:=0) hf hx hn fun xs r out hg=>?_
 unfold jK at hg;split at hg
 ·rename_i z' es;cases hz:Nat.beq z' z
  ·simp_all
  ·simp only[hz,Bool.true_and]at hg;cases hr:iV es.length bytes
   ·simp_all
   ·simp only[hr,lζ]at hg;refine⟨z',es,rfl,fun he=>by simp_all,?_⟩
    cases es<;>simp_all
 ·grind
theorem RJ {P : Program} {G : bY} (hmix : P.follows .mixedOrders = true) {raw : Nat → Bool} {f : Nat} {fn : Func} {x : Fx} (hf : P.funcs[f]? = some fn) (hx : AR P G raw fn x) (hn : (fn.name == "runtime.NumGoroutine") = false) {z bytes : Nat}
  (h0:eS (fun _ _ _=>none) 0 x [.sl .na z []] []=some (.arr 0 0 0 z,[.arr []]))
  (h1:eS (fun _ _ _=>none) 0 x [.sl .some z []] []=some (.arr 0 0 0 z,[.arr []]))
  (h2:∀e es,eS (fun _ _ _=>none) 0 x [.sl .some z (e::es)] []=bif iV (es.length+1) bytes then some (.arr 0 0 (0+(es.length+1)) z,[.arr (e::es)])else none):fp P G f (fD z bytes):=by
 refine sM Py hmix (bl:=0) hf hx hn fun xs r out hg=>?_
 unfold fD at hg;split at hg
 ·rename_i z' es;cases hz:Nat.beq z' z
  ·simp_all
  ·simp only[hz,Bool.true_and]at hg;cases hr:iV es.length bytes
   ·simp_all
   ·simp only[hr,lζ]at hg;refine⟨z',es,rfl,fun he=>by simp_all,?_⟩
    cases es<;>simp_all
 ·grind
def lB (z:Nat)(zd:Da)(bytes:Nat):Fx:=⟨(.seq (.reg 0 [⟨(some 2),.mv,[(.n z)],0,none⟩] none [0]) (.seq (.seq (.reg 0 [⟨(some 3),.mv,[(.t 0)],0,none⟩,⟨(some 4),(.binN 1 .eql),[(.t 3),(.n z)],0,none⟩] none [0,4]) (.cond (.t 4) (.seq (.reg 0 [⟨(some 2),.mv,[(.n z)],0,none⟩] none [2]) .ret) .skip)) (.seq (.reg 1 [⟨(some 5),(.bsl z zd 0 []),[],0,none⟩,⟨(some 6),.mv,[(.t 0)],0,none⟩,⟨(some 7),(.app z bytes),[(.t 5),(.t 6)],0,none⟩,⟨(some 2),.mv,[(.t 7)],1,none⟩] none [2]) .ret))),[(.t 2)],true⟩
def Vm (z bytes:Nat)(e:Da)(es:LD):nB z bytes 0 0 [.sl .exact z [],.sl .some z (e::es)] [] []=bif iV (es.length+1) bytes then some (.arr 0 0 (0+(es.length+1)) z,[(0,.arr (e::es))],[])else none:=by
 simp only[nB,kY,xE,List.isEmpty_nil,cond_true,elems,nm,show Nat.beq z z=true from Nat.beq_refl z,Bool.true_or,Bool.true_and,List.isEmpty_cons,Bool.false_and,cond_false,List.length_nil,List.length_cons,List.nil_append,iV]
def HG (z bytes:Nat)(e:Da)(es:LD)(k:KV):df (fun _ _ _=>none) 0 (.app z bytes) 0 [.sl .exact z [],.sl .some z (e::es)] [.unborn] k=bif iV (es.length+1) bytes then k (.arr 0 0 (0+(es.length+1)) z) [.arr (e::es)]else none:=by
 have:df (fun _ _ _=>none) 0 (.app z bytes) 0 [.sl .exact z [],.sl .some z (e::es)] [.unborn] k=match nB z bytes 0 0 [.sl .exact z [],.sl .some z (e::es)] [] []with
  |none=>none
  |some (v,ups,new)=>k v (grow (ao [.unborn] ups) new):=rfl
 rw[this,Vm];cases iV (es.length+1) bytes<;>rfl
def RK (z:Nat)(zd:Da)(bytes:Nat)(e:Da)(es:LD):eS (fun _ _ _=>none) 0 (lB z zd bytes) [.sl .some z (e::es)] []=bif iV (es.length+1) bytes then some (.p (.slice z ((e::es).take (0+(es.length+1)))),[])else none:=by
 rw[<-xA];have h:Bb (RO (lB z zd bytes).body) (fun _ _ _=>none) 0 (lB z zd bytes).res (lB z zd bytes).fz [.sl .some z (e::es)] []=df (fun _ _ _=>none) 0 (.app z bytes) 0 [.sl .exact z [],.sl .some z (e::es)] [.unborn] (fun v hp=>gf v fun v=>pk hp fun hp=>SV (.cons 2 v .nil) hp [.t 2] fun ds=>R5 0 true ds hp):=by rfl
 rw[h,HG];cases iV (es.length+1) bytes
 ·rfl
 ·simp only[j0,xf];rfl
def fQ (z:Nat)(zd:Da)(bytes:Nat):Fx:=⟨(.seq (.reg 0 [⟨(some 2),.mv,[(.n z)],0,none⟩] none [0]) (.seq (.seq (.reg 0 [⟨(some 3),.mv,[(.t 0)],0,none⟩,⟨(some 4),(.binN 1 .eql),[(.t 3),(.n z)],0,none⟩] none [0,4]) (.cond (.t 4) (.seq (.reg 0 [⟨(some 2),.mv,[(.n z)],0,none⟩] none [2]) (.gh (.own 2 z) .ret)) .skip)) (.seq (.reg 1 [⟨(some 5),(.bsl z zd 0 []),[],0,none⟩,⟨(some 6),.mv,[(.t 0)],0,none⟩,⟨(some 7),(.app z bytes),[(.t 5),(.t 6)],0,none⟩,⟨(some 2),.mv,[(.t 7)],1,none⟩] none [2]) .ret))),[(.t 2)],false⟩
def LQ (z:Nat)(zd:Da)(bytes:Nat)(e:Da)(es:LD):eS (fun _ _ _=>none) 0 (fQ z zd bytes) [.sl .some z (e::es)] []=bif iV (es.length+1) bytes then some (.arr 0 0 (0+(es.length+1)) z,[.arr (e::es)])else none:=by
 rw[<-xA];have h:Bb (RO (fQ z zd bytes).body) (fun _ _ _=>none) 0 (fQ z zd bytes).res (fQ z zd bytes).fz [.sl .some z (e::es)] []=df (fun _ _ _=>none) 0 (.app z bytes) 0 [.sl .exact z [],.sl .some z (e::es)] [.unborn] (fun v hp=>gf v fun v=>pk hp fun hp=>SV (.cons 2 v .nil) hp [.t 2] fun ds=>R5 0 false ds hp):=by rfl
 rw[h,HG];cases iV (es.length+1) bytes
 ·rfl
 ·simp only[j0,xf];rfl
theorem PQ {P:Program}{G:bY}{tab:Nat->Option Fn}(h:vj P G tab){k:Nat}{g:LD->Option (D×List Ob)}(hg:fp P G k g):vj P G (fun f=>bif Nat.beq f k then some (.prim g)else tab f):=by
 refine⟨fun f x hx=>?_,fun f g' hx=>?_,fun f g' x hx=>?_,fun f g' hx=>?_⟩
 ·cases hk:Nat.beq f k
  ·rw[hk]at hx;exact h.code f x hx
  ·rw[hk]at hx;simp at hx
 ·cases hk:Nat.beq f k
  ·rw[hk]at hx;exact h.prim f g' hx
  ·rw[hk]at hx;simp only[cond_true,lα,Fn.prim.injEq]at hx;subst hx;rw[lκ hk];exact hg
 ·cases hk:Nat.beq f k
  ·rw[hk]at hx;exact h.both f g' x hx
  ·rw[hk]at hx;simp at hx
 ·cases hk:Nat.beq f k
  ·rw[hk]at hx;exact h.any f g' hx
  ·rw[hk]at hx;simp at hx
theorem Ü {P:Program}{G:bY}(hmix:P.follows .mixedOrders=true){tab:Nat->Option Fn}{tabH:Nat->Option Hn}(h:vj P G tab)(hs:∀f,same (tabH f) (tab f))(n:Nat):ez P G (R3 tabH n):=by
 rw[WR hs n];exact rU hmix h n
end
section
def Xc (x:Nat):LN->LN
 |[]=>[x]
 |y::r=>bif Nat.beq x y then y::r else bif Nat.blt x y then x::y::r else y::Xc x r
def Ϛ (x:Nat):LN->LN
 |[]=>[]
 |y::r=>bif Nat.beq x y then r else y::Ϛ x r
def U_:LN->LN->LN
 |[],l=>l
 |x::r,l=>Xc x (U_ r l)
def gK (x:Nat):LN->Bool
 |[]=>false
 |y::r=>bif Nat.beq x y then true else gK x r
def ō:A->LN->LN
 | .t n,l=>Xc n l
 |_,l=>l
def Yb:List A->LN->LN
 |[],l=>l
 |a::r,l=>ō a (Yb r l)
def aaT (x:eH)(l:LN):LN:=
 Yb x.as (match x.gd with
  |some (g,_)=>Xc g (match x.dst with|some d=>Ϛ d l|none=>l)
  |none=>(match x.dst with|some d=>Ϛ d l|none=>l))
def Pm:List eH->LN->LN
 |[],out=>out
 |x::r,out=>aaT x (Pm r out)
def O5 (t:Nat):List (Nat×eH)->Option eH
 |[]=>none
 |(s,x)::r=>bif Nat.beq s t then some x else O5 t r
def F0 (d:List (Nat×eH)):Nat->Nat->Nat->Option (Nat×Nat)
 |0,_,_=>none
 |n+1,p,off=>match O5 p d with
  |none=>some (p,off)
  |some x=>match x.op,x.as with
   | .fa k,.t q::_=>F0 d n q (off+k)
   | .mv,.t q::_=>F0 d n q off
   | .nilck,.t q::_=>F0 d n q off
   |_,_=>none
def ab3 (d:List (Nat×eH))(x:eH):List Gh:=
 match x.op,x.as with
 | .app z _,.t t::_=>match O5 t d with
  |none=>[.own t z]
  |some y=>match y.op,y.as with
   | .mv,.t s::_=>match O5 s d with
    |none=>[.own s z]
    |some _=>[]
   | .load _ _,.t p::_=>match F0 d 20 p 0 with
    |some (q,off)=>[.ownc q off z]
    |none=>[]
   |_,_=>[]
 |_,_=>[]
def XZ:List (Nat×eH)->List eH->List Gh
 |_,[]=>[]
 |d,x::r=>ab3 d x++XZ (match x.dst with|some s=>(s,x)::d|none=>d) r
def sL:Co->List Gh
 | .reg _ ops _ _=>XZ [] ops
 | .seq a b=>sL a++sL b
 | .cond _ a b=>sL a++sL b
 | .block _ b=>sL b
 | .loop _ b=>sL b
 | .gh _ b=>sL b
 |_=>[]
def abH:Gh->Gh->Bool
 | .own s z,.own t y=>Nat.beq s t&&Nat.beq z y
 | .ownc s o z,.ownc t p y=>Nat.beq s t&&(Nat.beq o p&&Nat.beq z y)
 |_,_=>false
def W5 (g:Gh):List Gh->Bool
 |[]=>false
 |h::r=>bif abH g h then true else W5 g r
def Yc:Gh->Nat
 | .own s _=>s
 | .ownc s _ _=>s
 | .frz s=>s
 | .frzc s _=>s
 | .tog s _=>s
 | .pst s _=>s
 | .pkp _=>0
 | .keep _=>0
def Ko (h:LN):List Gh->List Gh->Co->Co
 |[],_,c=>c
 |g::r,seen,c=>bif gK (Yc g) h&&!W5 g seen then .gh g (Ko h r (g::seen) c)else Ko h r seen c
def aaI:List (Nat×LN)->Nat->LN
 |[],_=>[]
 |(j,l)::r,i=>bif Nat.beq j i then l else aaI r i
def wo (rl:LN):Co->LN->List (Nat×LN)->Co×LN
 | .skip,out,_=>(.skip,out)
 | .ret,_,_=>(.ret,rl)
 | .exit i,_,ex=>(.exit i,aaI ex i)
 | .reg n ops ps _,out,_=>(.reg n ops ps out,Pm ops out)
 | .seq a b,out,ex=>(.seq (wo rl a (wo rl b out ex).2 ex).1 (wo rl b out ex).1,(wo rl a (wo rl b out ex).2 ex).2)
 | .cond c t e,out,ex=>(.cond c (wo rl t out ex).1 (wo rl e out ex).1,ō c (U_ (wo rl t out ex).2 (wo rl e out ex).2))
 | .block i b,out,ex=>(.block i (wo rl b out ((i,out)::ex)).1,(wo rl b out ((i,out)::ex)).2)
 | .loop _ b,_,ex=>(Ko (wo rl b [] ex).2 (sL b) [] (.loop (wo rl b [] ex).2 (wo rl b (wo rl b [] ex).2 ex).1),(wo rl b [] ex).2)
 | .gh g c,out,ex=>(.gh g (wo rl c out ex).1,(wo rl c out ex).2)
def yO (h:LN)(c:Co):∀(gs seen:List Gh),er (Ko h gs seen c)=er c
 |[],_=>rfl
 |g::r,seen=>by
  simp only[Ko];cases gK (Yc g) h&&!W5 g seen
  ·exact yO h c r seen
  ·exact yO h c r (g::seen)
def oo (rl:LN):∀(c:Co) (out:LN) (ex:List (Nat×LN)),er (wo rl c out ex).1=er c
 | .skip,_,_=>rfl
 | .ret,_,_=>rfl
 | .exit _,_,_=>rfl
 | .reg _ _ _ _,_,_=>rfl
 | .seq a b,out,ex=>by simp only[wo,er,oo rl a,oo rl b]
 | .cond c t e,out,ex=>by simp only[wo,er,oo rl t,oo rl e]
 | .block i b,out,ex=>by simp only[wo,er,oo rl b]
 | .loop _ b,out,ex=>by simp only[wo,yO,er,oo rl b]
 | .gh g c,out,ex=>by simp only[wo,er,oo rl c]
def aaY (g:Gh)(c:Co):Co:=
 match g with
 | .pst s _=>match c with
  | .reg n ops ps out=> .reg n ops ps (U_ [s] out)
  |c=>c
 |_=>c
def Ú (g:Gh)(c:Co):er (aaY g c)=er c:=by
 cases g<;>first|rfl|(cases c<;>rfl)
def ghAt:LN->Gh->Co->Co
 |[],g,c=> .gh g (aaY g c)
 |0::p,g,.seq a b=> .seq (ghAt p g a) b
 |1::p,g,.seq a b=> .seq a (ghAt p g b)
 |0::p,g,.cond c a b=> .cond c (ghAt p g a) b
 |1::p,g,.cond c a b=> .cond c a (ghAt p g b)
 |0::p,g,.block i b=> .block i (ghAt p g b)
 |0::p,g,.loop l b=> .loop l (ghAt p g b)
 |0::p,g,.gh h b=> .gh h (ghAt p g b)
 |_,_,c=>c
def Ù:∀(p:LN) (g:Gh) (c:Co),er (ghAt p g c)=er c:=by
 intro p g c;induction p,g,c using ghAt.induct<;>simp_all [ghAt,er,Ú]
def O8:List (LN×Gh)->Co->Co
 |[],c=>c
 |(p,g)::r,c=>ghAt p g (O8 r c)
def Ie:∀(l:List (LN×Gh)) (c:Co),er (O8 l c)=er c
 |[],_=>rfl
 |(p,g)::r,c=>by simp only[O8,Ù,Ie r]
variable {raw:Nat->Bool}
def ZI {P:Program}{G:bY}{N:Nat}{ops:List Oper}{draw:Bool}{x:Co}(h:LH P G raw N ops draw=some x):er x=x:=by
 unfold LH at h;split at h
 ·cases h
 ·cases draw
  ·simp at h;subst h;rfl
  ·cases he:ic ops 0
   ·simp_all
   ·rw[he]at h;simp at h;split at h
    ·simp at h;subst h;rfl
    ·cases h
def ż {P:Program}{G:bY}{N:Nat}:∀{c:Code} {x:Co},Dw P G raw N c=some x->er x=x:=by
 intro c;induction c<;>intro x h<;>simp only[Dw]at h
 all_goals try (first|(simp at h;subst h;rfl)|simp_all|exact ZI h)
 case seq a b iha ihb=>
  split at h
  ·rename_i a' b' ha hb;simp at h;subst h;simp only[er,iha ha,ihb hb]
  ·cases h
 case cond c t e iht ihe=>
  split at h
  ·rename_i c' t' e' hc ht he;simp at h;subst h;simp only[er,iht ht,ihe he]
  ·cases h
 case block i b ih=>
  split at h
  ·rename_i b' hb;simp at h;subst h;simp only[er,ih hb]
  ·cases h
 case loop b ih=>
  split at h
  ·rename_i b' hb;simp at h;subst h;simp only[er,ih hb]
  ·cases h
def K_:Rv->Nat
 | .t n=>n
 | .cell a _ _=>a
def FV:List Rv->LN
 |[]=>[]
 |r::rs=>Xc (K_ r) (FV rs)
structure YC where
 raw:Nat->Nat->Bool
 thaw:Nat->Bool
 ghs:Nat->List (LN×Gh)
 prim:Nat->Option (LD->Option (D×List Ob))
def jc (P:Program)(G:bY)(s:YC)(f:Nat):Option Fx:=
 match P.funcs[f]? with
 |some fn=>match fn.body with
  |some c=>match Dw P G (s.raw f) fn.ntmps c,Ry P fn.results.toList with
   |some x,some rs=>some ⟨O8 (s.ghs f) (wo (FV rs) x (FV rs) []).1,rs,!s.thaw f⟩
   |_,_=>none
  |none=>none
 |none=>none
def uG {P:Program}{G:bY}{s:YC}{f:Nat}{x:Fx}(h:jc P G s f=some x):∃fn,P.funcs[f]?=some fn/\AR P G (s.raw f) fn x:=by
 unfold jc at h;split at h
 ·rename_i fn hf;refine⟨fn,hf,?_⟩;split at h
  ·rename_i c hc;split at h
   ·rename_i y rs hy hr;simp at h;subst h;refine⟨?_,hr⟩;rw[hc];simp only[hy,Ie,oo,ż hy]
   ·cases h
  ·cases h
 ·cases h
def Yj (P:Program)(G:bY)(s:YC)(f:Nat):Option Fn:=
 match s.prim f with
 |some g=>match jc P G s f with
  |some x=>some (.both g x)
  |none=>some (.prim g)
 |none=>match jc P G s f with
  |some x=>some (.code x)
  |none=>none
variable [Letters]
theorem Ę {P : Program} {G : bY} {s : YC} (hn : P.funcs.toList.all (fun fn => !(fn.name == "runtime.NumGoroutine")) = true) (hp : ∀ f g, s.prim f = some g → fp P G f g) : vj P G (Yj P G s) := by
 have hc : ∀ f y, jc P G s f = some y → ∃ fn raw, P.funcs[f]? = some fn ∧ AR P G raw fn y ∧ (fn.name == "runtime.NumGoroutine") = false := by
  intro f y hy;obtain⟨fn,h1,h2⟩:=uG hy;grind
 refine⟨fun f x h=>?_,fun f g h=>?_,fun f g x h=>?_,fun f g h=>?_⟩
 all_goals
  unfold Yj at h;grind
end
structure Bx (α:Type) where
 un:α
def ju (l t:Tm):Tm:=Tm.rec (motive:=fun _=>Tm) t (fun s d _ ih=> .cons s d ih) l
def fc:Tm->LN
 | .nil=>[]
 | .cons s _ r=>s::fc r
def uP (s:Nat):LN->Option Nat
 |[]=>none
 |x::r=>bif Nat.beq x s then some 0 else match uP s r with
  |some j=>some (j+1)
  |none=>none
def Q_ (l:Tm):Tm:=Tm.rec (motive:=fun _=>Tm) .nil (fun _ _ r _=>r) l
def hdT (l:Tm):D:=Tm.rec (motive:=fun _=>D) .junk (fun _ d _ _=>d) l
def OT:Nat->Bx (Tm->D)
 |0=>⟨fun l=>hdT l⟩
 |1=>⟨fun l=>hdT (Q_ l)⟩
 |2=>⟨fun l=>hdT (Q_ (Q_ l))⟩
 |n+3=>⟨fun l=>(OT n).un (Q_ (Q_ (Q_ l)))⟩
def H2:∀(n:Nat) (l:Tm),(OT n).un l=Nat.rec (motive:=fun _=>Tm->D) (fun l=>hdT l) (fun _ ih l=>ih (Q_ l)) n l
 |0,l=>rfl
 |1,l=>rfl
 |2,l=>rfl
 |n+3,l=>H2 n _
def CE (s:Nat)(t:Tm):∀(l:Tm),get (ju l t) s=match uP s (fc l)with
  |some j=>(OT j).un l
  |none=>get t s
 | .nil=>rfl
 | .cons x d r=>by
  show(bif Nat.beq x s then d else get (ju r t) s)=_;simp only[fc,uP];cases h:Nat.beq x s
  ·rw[CE s t r];cases uP s (fc r)with
   |none=>rfl
   |some j=>
    simp only[H2];rfl
  ·rfl
def JC (σ:LN):A->Bx (Tm->Tm->D)
 | .t n=>match uP n σ with
  |some j=>⟨fun _ l=>(OT j).un l⟩
  |none=>⟨fun t _=>ov t n⟩
 | .c x=>⟨fun _ _=> .p x⟩
 | .n z=>⟨fun _ _=> .sl .nil z []⟩
 | .f g=>⟨fun _ _=> .p (.fn g [])⟩
 | .g x=>⟨fun _ _=> .ip x 0⟩
def xu (l t:Tm)(a:A):(JC (fc l) a).un t l=Û (ju l t) a:=by
 cases a<;>try rfl
 rename_i n;show _=ov (ju l t) n;rw[f9,CE];simp only[JC];cases uP n (fc l)with
 |none=>simp only[f9]
 |some j=>rfl
abbrev ĥ:=Bx (Tm->Tm->D)
def uV (as:List ĥ)(t l:Tm):List D:=List.rec (motive:=fun _=>List D) [] (fun a _ ih=>a.un t l::ih) as
def opK (o:O)(kk:Nat)(as:List ĥ):Bx (aG->Nat->Tm->Tm->List Ob->KV->R):=
 match o,as with
 | .mv,[a]=>⟨fun _ _ t l hp k=>k (a.un t l) hp⟩
 | .pick,[c,a,b]=>⟨fun _ _ t l hp k=>X2 (c.un t l) (a.un t l) (b.un t l) fun v=>k v hp⟩
 | .bin op,[x,y]=>⟨fun _ _ t l hp k=>Zz op (x.un t l) (y.un t l) fun v=>k v hp⟩
 | .un .not,[x]=>⟨fun _ _ t l hp k=>p_ (x.un t l) fun v=>k v hp⟩
 | .ia esz,[x,i]=>⟨fun _ _ t l hp k=>iaG esz (x.un t l) (i.un t l) fun v=>k v hp⟩
 | .ix,[x,i]=>⟨fun _ _ t l hp k=>ixK (x.un t l) (i.un t l) fun v=>k v hp⟩
 | .fa off,[x]=>⟨fun _ _ t l hp k=>faG off (x.un t l) fun v=>k v hp⟩
 | .nilck,[x]=>⟨fun _ _ t l hp k=>XU (x.un t l) fun v=>k v hp⟩
 | .ext i,[x]=>⟨fun _ _ t l hp k=>Ý i (x.un t l) fun v=>k v hp⟩
 | .len kd,[x]=>⟨fun _ _ t l hp k=>aaS kd (x.un t l) hp fun v=>k v hp⟩
 | .call f raw,as=>⟨fun call _ t l hp k=>OF call f raw (uV as t l) hp k⟩
 | .alloc zs,[]=>⟨fun _ base _ _ hp k=>Do base kk zs hp k⟩
 | .box n,[d]=>⟨fun _ base t l hp k=>ZG base n kk (d.un t l) hp k⟩
 | .store n,[a,d]=>⟨fun call base t l hp k=>FY call base n kk (a.un t l) (d.un t l) hp k⟩
 | .slStr lo hi,x::xs=>⟨fun _ _ t l hp k=>FU lo hi (x.un t l) (uV xs t l) fun v=>k v hp⟩
 | .fld off n agg,[x]=>⟨fun _ _ t l hp k=>WX off n agg (x.un t l) fun v=>k v hp⟩
 | .build zs ps,vs=>⟨fun _ _ t l hp k=>Dv zs ps (uV vs t l) fun v=>k v hp⟩
 | .app esz bytes,[a,b]=>⟨fun call base t l hp k=>Zs call base esz bytes kk (a.un t l) (b.un t l) hp k⟩
 | .load 1 false,[x]=>⟨fun _ _ t l hp k=>Xx (x.un t l) hp fun v=>k v hp⟩
 | .load n true,[x]=>⟨fun _ _ t l hp k=>ň n true (x.un t l) hp fun v=>k v hp⟩
 |o,as=>⟨fun call base t l hp k=>Sd call base o kk (uV as t l) hp k⟩
def MS (o:O)(kk:Nat)(as:List ĥ)(call:aG)(base:Nat)(t l:Tm)(hp:List Ob)(k:KV):(opK o kk as).un call base t l hp k=Sd call base o kk (uV as t l) hp k:=by
 unfold opK;split<;>first
  |rfl
  |(
    show _=Sd call base (.load _ true) kk [_] hp k;unfold Sd;simp)
def qU (σ:LN):List A->List ĥ
 |[]=>[]
 |a::r=>JC σ a::qU σ r
def tR (t l:Tm):∀as,uV (qU (fc l) as) t l=sE (ju l t) as
 |[]=>rfl
 |a::r=>by
  show(JC (fc l) a).un t l::uV (qU (fc l) r) t l=Û (ju l t) a::sE (ju l t) r;rw[xu,tR t l r]
def opX (σ:LN)(x:eH):Bx (aG->Nat->Tm->Tm->List Ob->KV->R):=
 match x.gd with
 |none=>opK x.op x.k (qU σ x.as)
 |some (g,w)=>⟨fun call base t l hp k=>gG ((JC σ (.t g)).un t l) w (fun k=>(opK x.op x.k (qU σ x.as)).un call base t l hp k) hp k⟩
def XX (x:eH)(call:aG)(base:Nat)(t l:Tm)(hp:List Ob)(k:KV):(opX (fc l) x).un call base t l hp k=gdO x.gd (ju l t) (fun k=>Sd call base x.op x.k (sE (ju l t) x.as) hp k) hp k:=by
 unfold opX gdO;cases h:x.gd with
 |none=>simp only[MS,tR]
 |some p=>
  simp only[MS,tR,xu];rfl
def MU (σ:LN):LN->Bx (Tm->Tm->Tm)
 |[]=>⟨fun _ _=> .nil⟩
 |s::r=>⟨fun t l=> .cons s ((JC σ (.t s)).un t l) ((MU σ r).un t l)⟩
def Ff (t l:Tm):∀out,(MU (fc l) out).un t l=j2 out (ju l t)
 |[]=>rfl
 |s::r=>by
  show Tm.cons s ((JC (fc l) (.t s)).un t l) ((MU (fc l) r).un t l)=_;rw[xu,Ff t l r];rfl
def SG (out:LN):LN->List eH->Bx (aG->Nat->Tm->Tm->List Ob->K->R)
 |σ,[]=>⟨fun _ _ t l hp k=>k ((MU σ out).un t l) hp⟩
 |σ,x::r=>match x.dst with
  |some d=>⟨fun call base t l hp k=>(opX σ x).un call base t l hp fun v hp=>(SG out (d::σ) r).un call base t (.cons d v l) hp k⟩
  |none=>⟨fun call base t l hp k=>(opX σ x).un call base t l hp fun _ hp=>(SG out σ r).un call base t l hp k⟩
def xv (out:LN)(call:aG)(base:Nat)(t:Tm)(k:K):∀(ops:List eH) (l:Tm) (hp:List Ob),(SG out (fc l) ops).un call base t l hp k=D7 call base ops (ju l t) hp fun tm hp=>k (j2 out tm) hp
 |[],l,hp=>by
  show k ((MU (fc l) out).un t l) hp=k (j2 out (ju l t)) hp;rw[Ff]
 |x::r,l,hp=>by
  have step:D7 call base (x::r) (ju l t) hp (fun tm hp=>k (j2 out tm) hp)=gdO x.gd (ju l t) (fun k=>Sd call base x.op x.k (sE (ju l t) x.as) hp k) hp fun v hp=>D7 call base r (put x.dst v (ju l t)) hp fun tm hp=>k (j2 out tm) hp:=rfl
  rw[step];unfold SG;cases hd:x.dst with
  |none=>
   simp only[XX];congr 1;funext v hp;exact xv out call base t k r l hp
  |some d=>
   simp only[XX];congr 1;funext v hp;exact xv out call base t k r (.cons d v l) hp
structure fP where
 rs:LN
 wl:List (Nat×Bool)
 grow:Bool
 lim:Nat
def oJ (l:List (Nat×Bool)):LN:=List.rec (motive:=fun _=>LN) [] (fun p _ ih=>bif p.2 then p.1::ih else ih) l
def cF (f:fP):ek:=⟨f.rs,oJ f.wl,f.grow,f.lim⟩
def Al (ids:LN)(hp:List Ob)(l:List (Nat×Ob)):List (Nat×Bool):=List.rec (motive:=fun _=>List (Nat×Bool)) [] (fun p _ ih=>(p.1,!(nq p.1 ids&&Ib (aS hp p.1) p.2))::ih) l
def oK (ids:LN)(hp:List Ob):∀l,oJ (Al ids hp l)=gV ids hp l
 |[]=>rfl
 |(i,o)::r=>by
  show(bif !(nq i ids&&Ib (aS hp i) o)then i::oJ (Al ids hp r)else oJ (Al ids hp r))=_;rw[oK ids hp r];simp only[gV,show @Mv.eq mvNone=Ib from rfl];cases nq i ids&&Ib (aS hp i) o<;>rfl
def â (i:Nat)(l:List (Nat×Bool)):Bool:=List.rec (motive:=fun _=>Bool) false (fun p _ ih=>Bool.rec (motive:=fun _=>Bool) ih (Bool.rec (motive:=fun _=>Bool) ih true p.2) (Nat.beq p.1 i)) l
def O9 (i:Nat):∀l,â i l=(oJ l).contains i
 |[]=>rfl
 |(j,b)::r=>by
  show Bool.rec (motive:=fun _=>Bool) (â i r) (Bool.rec (motive:=fun _=>Bool) (â i r) true b) (Nat.beq j i)=(bif b then j::oJ r else oJ r).contains i;rw[O9 i r];cases b with
  |false=>cases Nat.beq j i<;>rfl
  |true=>
   simp only[cond_true,List.contains_cons];have:(i==j)=Nat.beq j i:=by rw[mι,beq_iff_eq,Nat.beq_eq];omega
   rw[this];cases Nat.beq j i<;>rfl
def Tj (a:fP)(i:Nat):Bool:=Bool.rec (motive:=fun _=>Bool) (Bool.rec (motive:=fun _=>Bool) false (Nat.ble a.lim i) a.grow) true (â i a.wl)
def P1 (a:fP)(i:Nat):Tj a i=wr (cF a) i:=by
 unfold Tj wr cF;rw[O9];cases(oJ a.wl).contains i<;>cases a.grow<;>simp
def Px (a:fP)(l:LN):Bool:=List.rec (motive:=fun _=>Bool) true (fun i _ ih=>Bool.rec (motive:=fun _=>Bool) ih false (Tj a i)) l
def I7 (a:fP):∀l,Px a l=l.all (fun i=>!wr (cF a) i)
 |[]=>rfl
 |i::r=>by
  show Bool.rec (motive:=fun _=>Bool) (Px a r) false (Tj a i)=_;rw[I7 a r,P1];simp;cases wr (cF a) i<;>rfl
def zw (a:fP)(l:List (Nat×Bool)):Bool:=List.rec (motive:=fun _=>Bool) true (fun p _ ih=>Bool.rec (motive:=fun _=>Bool) ih (Bool.rec (motive:=fun _=>Bool) ih false p.2) (Tj a p.1)) l
def CA (a:fP):∀l,zw a l=(oJ l).all (fun i=>!wr (cF a) i)
 |[]=>rfl
 |(i,b)::r=>by
  show Bool.rec (motive:=fun _=>Bool) (zw a r) (Bool.rec (motive:=fun _=>Bool) (zw a r) false b) (Tj a i)=(bif b then i::oJ r else oJ r).all _;rw[CA a r,P1];cases b with
  |false=>cases wr (cF a) i<;>rfl
  |true=>
   simp;cases wr (cF a) i<;>rfl
def LA (a b:fP):Bool:=
 Bool.rec (motive:=fun _=>Bool) false (Bool.rec (motive:=fun _=>Bool) false (Bool.rec (motive:=fun _=>Bool) false (Bool.rec (motive:=fun _=>Bool) false (Bool.rec (motive:=fun _=>Bool) true (Bool.rec (motive:=fun _=>Bool) true false b.grow) a.grow) (zw b a.wl)) (Px b a.rs)) (zw a b.wl)) (Px a b.rs)
def Ri (a b:fP):LA a b=kX (cF a) (cF b):=by
 unfold LA kX;simp only[I7,CA];simp only[cF];cases b.rs.all _<;>cases(oJ b.wl).all _<;>cases a.rs.all _<;>cases(oJ a.wl).all _<;>cases a.grow<;>cases b.grow<;>rfl
def lQ (fs:List fP):List (Nat×Nat)->Bool
 |[]=>true
 |(i,j)::r=>match fs[i]?,fs[j]? with
  |some a,some b=>Bool.rec (motive:=fun _=>Bool) false (lQ fs r) (LA a b)
  |_,_=>false
def mX (fs:List fP):∀ps,lQ fs ps=fx (fs.map cF) ps
 |[]=>rfl
 |(i,j)::r=>by
  simp only[lQ,fx,lσ,mX fs r];cases fs[i]? with
  |none=>rfl
  |some a=>
   cases fs[j]? with
   |none=>rfl
   |some b=>
    simp only[Option.map_some,Ri];cases kX (cF a) (cF b)<;>rfl
abbrev KL:=D->List Ob->fP->R
def LL (call:aG)(f:Nat)(raw:Bool)(vs:List D)(hp:List Ob)(k:KL):R:=
 forceNs (fy hp br (eC vs []) []) fun ids=>
  forceDs (fV (jd ids) (Bool.rec (motive:=fun _=>List D) (vs.map norm) vs raw)) fun args=>forceHb (ng ids hp) fun hp'=>
   caseO (call f args hp') none fun ro=>Prod.rec (motive:=fun _=>R) (fun r out=>qL (Nat.ble ids.length out.length)
    (gf (gO (back ids.length hp.length ids out.length) r) fun v=>forceHb (nv (back ids.length hp.length ids out.length) out) fun out'=>
     forceHb (grow (ao hp (ids.zip out')) (out'.drop ids.length)) fun hp2=>k v hp2 ⟨ids,Al ids hp (ids.zip out'),!(out'.drop ids.length).isEmpty,hp.length⟩) none) ro
variable {q:KF}
def RC (call:aG)(f:Nat)(raw:Bool)(vs:List D)(hp:List Ob){k:KL}(h:∀v hp f,k v hp f=q v hp (cF f)):LL call f raw vs hp k=B1 call f raw vs hp q:=by
 unfold LL B1;simp only[h,cF,oK]
def LK (call:aG)(f:Nat)(raw:Bool)(vs:List D)(hp:List Ob)(k:KL):R:=
 BZ call f raw vs hp (LL call f raw vs hp k) fun v=>k v hp ⟨[],[],false,hp.length⟩
def RB (call:aG)(f:Nat)(raw:Bool)(vs:List D)(hp:List Ob){k:KL}(h:∀v hp f,k v hp f=q v hp (cF f)):LK call f raw vs hp k=HO call f raw vs hp q:=by
 unfold LK HO;rw[RC _ _ _ _ _ h];simp only[h];rfl
def O7 (call:aG)(base:Nat)(o:O)(kk:Nat)(vs:List D)(hp:List Ob)(k:KL):R:=
 bif !(dK o)||cZ (aS hp (base+kk))then
  match pC call base o kk vs (bL o vs hp) ((bL o vs hp).map (aS hp)) hp.length with
  |none=>none
  |some (v,ups,new)=>k v (grow (ao hp ups) new) ⟨bif dK o then(base+kk)::bL o vs hp else bL o vs hp,Al (bL o vs hp) hp ups,!new.isEmpty,hp.length⟩
 else none
def W0 (call:aG)(base:Nat)(o:O)(kk:Nat)(vs:List D)(hp:List Ob){k:KL}(h:∀v hp f,k v hp f=q v hp (cF f)):O7 call base o kk vs hp k=D2 call base o kk vs hp q:=by
 unfold O7 D2;cases !(dK o)||cZ (aS hp (base+kk))with
 |false=>rfl
 |true=>
  cases pC call base o kk vs (bL o vs hp) ((bL o vs hp).map (aS hp)) hp.length with
  |none=>rfl
  |some e=>
   simp only[h,cF,oK]
def SD (o:O)(kk:Nat)(as:List ĥ):Bx (aG->Nat->Tm->Tm->List Ob->KL->R):=
 match o with
 | .call f raw=>⟨fun call _ t l hp k=>LK call f raw (uV as t l) hp k⟩
 |o=>match mo o with
  |true=>⟨fun call base t l hp k=>(opK o kk as).un call base t l hp fun v hp'=>k v hp' ⟨bL o (uV as t l) hp,[],false,hp.length⟩⟩
  |false=>⟨fun call base t l hp k=>O7 call base o kk (uV as t l) hp k⟩
def MR {o:O}(hs:mo o=true)(kk:Nat)(as:List ĥ):SD o kk as=⟨fun call base t l hp k=>(opK o kk as).un call base t l hp fun v hp'=>k v hp' ⟨bL o (uV as t l) hp,[],false,hp.length⟩⟩:=by
 cases o<;>first
  |rfl
  |(cases hs;done)
  |rfl
def Mh {call:aG}{base kk:Nat}{o:O}{vs:List D}{hp:List Ob}(hs:mo o=true):zb call base o kk vs hp q=Sd call base o kk vs hp fun v hp'=>q v hp' (Ľ o vs hp):=by
 cases o<;>first
  |rfl
  |(cases hs;done)
  |rfl
def SE {o:O}(hs:mo o=false)(hc:∀f raw,o≠ .call f raw)(kk:Nat)(as:List ĥ):SD o kk as=⟨fun call base t l hp k=>O7 call base o kk (uV as t l) hp k⟩:=by
 cases o<;>first
  |rfl
  |grind
  |rfl
  |(simp only[SD,hs])
def Se {call:aG}{base kk:Nat}{o:O}{vs:List D}{hp:List Ob}(hs:mo o=false)(hc:∀f raw,o≠ .call f raw):zb call base o kk vs hp q=D2 call base o kk vs hp q:=by
 cases o<;>first
  |rfl
  |grind
  |rfl
  |(simp only[zb,hs])
def PE (o:O)(kk:Nat)(as:List ĥ)(call:aG)(base:Nat)(t l:Tm)(hp:List Ob){k:KL}(h:∀v hp f,k v hp f=q v hp (cF f)):(SD o kk as).un call base t l hp k=zb call base o kk (uV as t l) hp q:=by
 by_cases hc:∃f raw,o= .call f raw
 ·obtain⟨f,raw,rfl⟩:=hc;exact RB _ _ _ _ _ h
 ·have hc:∀f raw,o≠ .call f raw:=fun f raw e=>hc ⟨f,raw,e⟩
  cases hs:mo o with
  |true=>
   rw[MR hs,Mh hs];rw[MS];congr 1;funext v hp';exact h _ _ _
  |false=>
   rw[SE hs hc,Se hs hc];exact W0 _ _ _ _ _ _ h
def ć (σ:LN)(x:eH):Bx (aG->Nat->Tm->Tm->List Ob->KL->R):=
 match x.gd with
 |none=>SD x.op x.k (qU σ x.as)
 |some (g,w)=>⟨fun call base t l hp k=>D5 ((JC σ (.t g)).un t l) w ((SD x.op x.k (qU σ x.as)).un call base t l hp k) (k (.tup []) hp ⟨[],[],false,0⟩)⟩
def PF (x:eH)(call:aG)(base:Nat)(t l:Tm)(hp:List Ob){k:KL}(hk:∀v hp f,k v hp f=q v hp (cF f)):(ć (fc l) x).un call base t l hp k=gdF x.gd (ju l t) (fun k=>zb call base x.op x.k (sE (ju l t) x.as) hp k) hp q:=by
 unfold ć gdF;cases h:x.gd with
 |none=>simp only[PE _ _ _ _ _ _ _ _ hk,tR]
 |some p=>
  simp only[PE _ _ _ _ _ _ _ _ hk,tR,xu,hk];rfl
def JD (out:LN):LN->List eH->Bx (aG->Nat->Tm->Tm->List Ob->List fP->(Tm->List Ob->List fP->R)->R)
 |σ,[]=>⟨fun _ _ t l hp fs k=>k ((MU σ out).un t l) hp fs.reverse⟩
 |σ,x::r=>match x.dst with
  |some d=>⟨fun call base t l hp fs k=>(ć σ x).un call base t l hp fun v hp f=>(JD out (d::σ) r).un call base t (.cons d v l) hp (f::fs) k⟩
  |none=>⟨fun call base t l hp fs k=>(ć σ x).un call base t l hp fun _ hp f=>(JD out σ r).un call base t l hp (f::fs) k⟩
def zB (out:LN)(call:aG)(base:Nat)(t:Tm){k:Tm->List Ob->List fP->R}{q:Tm->List Ob->List ek->R}(hk:∀tm hp fs,k tm hp fs=q tm hp (fs.map cF)):∀(ops:List eH) (l:Tm) (hp:List Ob) (fs:List fP),(JD out (fc l) ops).un call base t l hp fs k=sr call base ops (ju l t) hp (fs.map cF) fun tm hp fs=>q (j2 out tm) hp fs
 |[],l,hp,fs=>by
  show k ((MU (fc l) out).un t l) hp fs.reverse=q (j2 out (ju l t)) hp (fs.map cF).reverse;rw[Ff,hk,List.map_reverse]
 |x::r,l,hp,fs=>by
  have step:sr call base (x::r) (ju l t) hp (fs.map cF) (fun tm hp fs=>q (j2 out tm) hp fs)=gdF x.gd (ju l t) (fun k=>zb call base x.op x.k (sE (ju l t) x.as) hp k) hp fun v hp f=>sr call base r (put x.dst v (ju l t)) hp (f::fs.map cF) fun tm hp fs=>q (j2 out tm) hp fs:=rfl
  rw[step];unfold JD;cases hd:x.dst with
  |none=>
   exact PF _ _ _ _ _ _ fun v hp f=>zB out call base t hk r l hp (f::fs)
  |some d=>
   exact PF _ _ _ _ _ _ fun v hp f=>zB out call base t hk r (.cons d v l) hp (f::fs)
def aa1 (nal:Nat)(ops:List eH)(prs:Option (List (Nat×Nat)))(out:LN):Bx Sem:=
 match prs with
 |none=>match nal with
  |0=>⟨fun c _ _ tm hp kn _ _=>(SG out [] ops).un c hp.length tm .nil hp kn⟩
  |n+1=>⟨fun c _ _ tm hp kn _ _=>(SG out [] ops).un c hp.length tm .nil (se (n+1) hp) kn⟩
 |some ps=>⟨fun c _ _ tm hp kn _ _=>(JD out [] ops).un c hp.length tm .nil (se nal hp) [] fun tm hp fs=>qL (lQ fs ps) (kn tm hp) none⟩
def č (nal:Nat)(ops:List eH)(prs:Option (List (Nat×Nat)))(out:LN):(aa1 nal ops prs out).un=aa2 nal ops prs out:=by
 funext c n m tm hp kn ke kr
 cases prs with
 |none=>
  cases nal with
  |zero=>exact xv out c hp.length tm kn ops .nil hp
  |succ k=>exact xv out c hp.length tm kn ops .nil (se (k+1) hp)
 |some ps=>exact zB out c hp.length tm (q:=fun tm hp fs=>qL (fx fs ps) (kn tm hp) none) (fun tm hp fs=>by rw[mX]) ops .nil (se nal hp) []
def oe:Co->Bx Sem
 | .skip=>⟨Ō⟩
 | .reg nal ops prs out=>aa1 nal ops prs out
 | .seq a b=>⟨fun c n m tm hp kn ke kr=>(oe a).un c n m tm hp (fun tm hp=>(oe b).un c n m tm hp kn ke kr) ke kr⟩
 | .cond x t e=>⟨fun c n m tm hp kn ke kr=>OI (Û tm x) ((oe t).un c n m tm hp kn ke kr) ((oe e).un c n m tm hp kn ke kr)⟩
 | .block id b=>⟨fun c n m tm hp kn ke kr=>(oe b).un c n m tm hp kn (fun i tm hp=>qL (Nat.beq i id) (kn tm hp) (ke i tm hp)) kr⟩
 | .loop live b=>⟨fun c n m tm hp _ ke kr=>Cs m live (fun tm hp k=>(oe b).un c n m tm hp k ke kr) n tm hp⟩
 | .exit id=>⟨Ĺ id⟩
 | .ret=>⟨aa4⟩
 | .gh g b=>⟨fun c n m tm hp kn ke kr=>ϭ m g tm hp fun tm hp=>(oe b).un c n m tm hp (pM m g kn) (fun i=>pM m g (ke i)) (pM m g kr)⟩
def jy:∀c:Co,(oe c).un=RO c
 | .skip=>rfl
 | .reg nal ops prs out=>č nal ops prs out
 | .seq a b=>by
  show(fun(c:aG) (n m:Nat) (tm:Tm) (hp:List Ob) (kn:K) (ke:Nat->K) (kr:K)=>(oe a).un c n m tm hp (fun tm hp=>(oe b).un c n m tm hp kn ke kr) ke kr)=_;rw[jy a,jy b];rfl
 | .cond x t e=>by
  show(fun(c:aG) (n m:Nat) (tm:Tm) (hp:List Ob) (kn:K) (ke:Nat->K) (kr:K)=>OI (Û tm x) ((oe t).un c n m tm hp kn ke kr) ((oe e).un c n m tm hp kn ke kr))=_;rw[jy t,jy e];rfl
 | .block id b=>by
  show(fun(c:aG) (n m:Nat) (tm:Tm) (hp:List Ob) (kn:K) (ke:Nat->K) (kr:K)=>(oe b).un c n m tm hp kn (fun i tm hp=>qL (Nat.beq i id) (kn tm hp) (ke i tm hp)) kr)=_;rw[jy b];rfl
 | .loop live b=>by
  show(fun(c:aG) (n m:Nat) (tm:Tm) (hp:List Ob) (_:K) (ke:Nat->K) (kr:K)=>Cs m live (fun tm hp k=>(oe b).un c n m tm hp k ke kr) n tm hp)=_;rw[jy b];rfl
 | .exit _=>rfl
 | .ret=>rfl
 | .gh g b=>by
  show(fun(c:aG) (n m:Nat) (tm:Tm) (hp:List Ob) (kn:K) (ke:Nat->K) (kr:K)=>ϭ m g tm hp fun tm hp=>(oe b).un c n m tm hp (pM m g kn) (fun i=>pM m g (ke i)) (pM m g kr))=_;rw[jy b];rfl
def aaM:Option Fn->Option Hn
 |some (.code x)=>some (.code (oe x.body).un x.res x.fz)
 |some (.prim g)=>some (.prim g)
 |some (.both g x)=>some (.both g (oe x.body).un x.res x.fz)
 |some (.any g)=>some (.any g)
 |none=>none
def Sa (o:Option Fn):same (aaM o) o:=by
 cases o with
 |none=>trivial
 |some x=>cases x with
  |code x=>exact⟨(jy _).symm,rfl,rfl⟩
  |prim g=>rfl
  |both g x=>exact⟨rfl,(jy _).symm,rfl,rfl⟩
  |any g=>rfl
def ŏ (P:Program)(G:bY)(s:YC)(f:Nat):Option Hn:=aaM (Yj P G s f)
def Tb (P:Program)(G:bY)(s:YC)(f:Nat):same (ŏ P G s f) (Yj P G s f):=Sa _
end
end Go.Ab
