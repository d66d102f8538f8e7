import Derived.Test.YtbgddkffhndjcaaGreatDoorAm0
import Derived.Test.YtbgddkffhndjcaaGreatDoorAm2
import Derived.Lib.ItoaNum
import Derived.KernelRfl
set_option linter.all false
namespace Go.Ab
open Go
noncomputable section
section
abbrev R:=Option (D×List Ob)
abbrev K:=Tm->List Ob->R
abbrev KV:=D->List Ob->R
noncomputable section
def qD (tm:Tm)(t:Nat):D:=
 Tm.rec (motive:=fun _=>D) .junk (fun s d _ ih=>Bool.rec (motive:=fun _=>D) ih d (Nat.beq s t)) tm
def gR (t:Nat):∀tm,qD tm t=get tm t
 | .nil=>rfl
 | .cons s d r=>by
  show Bool.rec (motive:=fun _=>D) (qD r t) d (Nat.beq s t)=bif Nat.beq s t then d else get r t
  rw[gR t r];cases Nat.beq s t<;>rfl
def ϩ (tm:Tm)(a:A):D:=
 A.rec (motive:=fun _=>D) (fun n=>qD tm n) (fun x=> .p x) (fun z=> .sl .nil z []) (fun g=> .p (.fn g [])) (fun x=> .ip x 0) a
def Ã (tm:Tm)(a:A):ϩ tm a=ev tm a:=by
 cases a
 ·exact gR _ tm
 all_goals rfl
def jg (d:D)(e:R)(k:Da->R):R:=
 D.rec (motive_1:=fun _=>R) (motive_2:=fun _=>PUnit.{1})
  (fun x=>k x) (fun _ _=>e) (fun _ _=>e) (fun _ _=>e) (fun _ _ _=>e) (fun _ _=>e) (fun _ _ _ _=>e) (fun _ _ _=>e) (fun _=>e) (fun _ _ _=>e) (fun _ _ _=>e) e ⟨⟩ (fun _ _ _ _=>⟨⟩) d
def ul (x:Da)(e:R)(k:IntKind->Int->R):R:=
 Da.rec (motive_1:=fun _=>R) (motive_2:=fun _=>PUnit.{1})
  (fun _=>e) (fun i n=>k i n) (fun _=>e) (fun _ _=>e) (fun _ _ _=>e) e (fun _ _=>e) (fun _ _ _ _=>e) e (fun _ _ _=>e) e (fun _ _ _=>e) e (fun _ _ _=>e) (fun _ _=>e) ⟨⟩ (fun _ _ _ _=>⟨⟩) x
def uk (x:Da)(e:R)(t f:R):R:=
 Da.rec (motive_1:=fun _=>R) (motive_2:=fun _=>PUnit.{1})
  (fun b=>Bool.rec (motive:=fun _=>R) f t b) (fun _ _=>e) (fun _=>e) (fun _ _=>e) (fun _ _ _=>e) e (fun _ _=>e) (fun _ _ _ _=>e) e (fun _ _ _=>e) e (fun _ _ _=>e) e (fun _ _ _=>e) (fun _ _=>e) ⟨⟩ (fun _ _ _ _=>⟨⟩) x
def q8 (x:Da)(e:R)(k:LN->R):R:=
 Da.rec (motive_1:=fun _=>R) (motive_2:=fun _=>PUnit.{1})
  (fun _=>e) (fun _ _=>e) (fun s=>k s) (fun _ _=>e) (fun _ _ _=>e) e (fun _ _=>e) (fun _ _ _ _=>e) e (fun _ _ _=>e) e (fun _ _ _=>e) e (fun _ _ _=>e) (fun _ _=>e) ⟨⟩ (fun _ _ _ _=>⟨⟩) x
def jB (x:Da)(e:R)(k:Nat->LD->R):R:=
 Da.rec (motive_1:=fun _=>R) (motive_2:=fun _=>PUnit.{1})
  (fun _=>e) (fun _ _=>e) (fun _=>e) (fun _ _=>e) (fun z es _=>k z es) e (fun _ _=>e) (fun _ _ _ _=>e) e (fun _ _ _=>e) e (fun _ _ _=>e) e (fun z es _=>k z es) (fun _ _=>e) ⟨⟩ (fun _ _ _ _=>⟨⟩) x
def caseO {α:Type}(o:Option α)(e:R)(k:α->R):R:=Option.rec (motive:=fun _=>R) e (fun x=>k x) o
def sU (b:Bool)(t e:R):R:=Bool.rec (motive:=fun _=>R) e t b
def m6 (b:Bool)(t e:R):sU b t e=bif b then t else e:=by cases b<;>rfl
def bK (b:Bool)(k:D->R):R:=Bool.rec (motive:=fun _=>R) (k (.p (.bool false))) (k (.p (.bool true))) b
def aaz (b:Bool)(k:D->R):bK b k=k (.p (.bool b)):=by cases b<;>rfl
def dZ (call:aw)(base:Nat)(o:O)(kk:Nat)(vs:List D)(hp:List Ob)(k:KV):R:=
 bif !(ed o)||dq (aX hp (base+kk))then
  match rD call base o kk vs (bM o vs hp) ((bM o vs hp).map (aX hp)) hp.length with
  |none=>none
  |some (v,ups,new)=>k v (grow (ar hp ups) new)
 else none
def kc (k:IntKind):Nat:=IntKind.rec (motive:=fun _=>Nat) 0 1 2 3 4 5 6 7 k
def ß:∀i j:IntKind,Nat.beq (kc i) (kc j)=decide (i=j):=by
 intro i j;cases i<;>cases j<;>rfl
def im (n:Int)(p q:Nat->R):R:=Int.rec (motive:=fun _=>R) (fun m=>p m) (fun m=>q m) n
def eqK (m n:Int)(k:Bool->R):R:=
 im m (fun a=>im n (fun b=>k (Nat.beq a b)) fun _=>k false) fun a=>im n (fun _=>k false) fun b=>k (Nat.beq a b)
def ack (m n:Int)(k:Bool->R):eqK m n k=k (eqI m n):=by cases m<;>cases n<;>rfl
def ltK (m n:Int)(k:Bool->R):R:=
 im m (fun a=>im n (fun b=>k (Nat.blt a b)) fun _=>k false) fun a=>im n (fun _=>k true) fun b=>k (Nat.blt b a)
def acN (m n:Int)(k:Bool->R):ltK m n k=k (aO m n):=by cases m<;>cases n<;>rfl
def lim (i:IntKind):Nat:=IntKind.rec (motive:=fun _=>Nat) 0 0 2147483648 9223372036854775808 256 0 4294967296 18446744073709551616 i
def ü (i:IntKind)(m:Nat)(k:D->R):R:=sU (Nat.blt m (lim i)) (k (.p (.int i (.ofNat m)))) (k (.p (.int i (ae i (.ofNat m)))))
def Q0 (i:IntKind)(m:Nat)(h:Nat.blt m (lim i)=true):ae i (.ofNat m)= .ofNat m:=by
 cases i<;>simp only[lim]at h;case i8=>simp_all
 case i16=>simp_all
 case u16=>simp_all
 all_goals simp only[ae,h,cond_true]
def v_ (i:IntKind)(m:Nat)(k:D->R):ü i m k=k (.p (.int i (ae i (.ofNat m)))):=by
 unfold ü;cases h:Nat.blt m (lim i)
 ·rfl
 ·rw[Q0 i m h];rfl
def rJ (o:Option Da)(k:D->R):R:=caseO o none fun x=>k (.p x)
def nbK (b:Bool)(k:D->R):R:=Bool.rec (motive:=fun _=>R) (k (.p (.bool true))) (k (.p (.bool false))) b
def ý (b:Bool)(k:D->R):nbK b k=k (.p (.bool (!b))):=by cases b<;>rfl
def abR (op:BinOp)(i:IntKind)(m n:Int)(e:R)(k:D->R):R:=
 BinOp.rec (motive:=fun _=>R)
  (im m (fun a=>im n (fun b=>ü i (Nat.add a b) k) fun _=>e) fun _=>e)
  (im m (fun a=>im n (fun b=>sU (Nat.ble b a) (ü i (Nat.sub a b) k) e) fun _=>e) fun _=>e)
  (im m (fun a=>im n (fun b=>ü i (Nat.mul a b) k) fun _=>e) fun _=>e)
  e e e e e e e e
  (eqK m n fun b=>bK b k) (eqK m n fun b=>nbK b k) (ltK m n fun b=>bK b k) (ltK n m fun b=>nbK b k) (ltK n m fun b=>bK b k) (ltK m n fun b=>nbK b k) op
def Λ (op:BinOp)(i:IntKind)(m n:Int)(k:D->R):abR op i m n (rJ (bin op (.p (.int i m)) (.p (.int i n))) k) k=rJ (bin op (.p (.int i m)) (.p (.int i n))) k:=by
 cases op<;>simp only[abR,ack,acN,aaz,ý,v_];case add=>
  cases m<;>cases n<;>try rfl
  simp[im,bin,iZ,lJ,rJ,caseO]
 case sub=>
  cases m<;>cases n<;>try rfl
  rename_i a b;simp only[im,m6];cases h:Nat.ble b a
  ·rfl
  ·have hle:=Nat.le_of_ble_eq_true h;simp only[bin,iZ,lJ,rJ,caseO,if_true];grind
 case mul=>
  cases m<;>cases n<;>try rfl
  simp[im,bin,iZ,lJ,rJ,caseO]
 all_goals simp[bin,iZ,lJ,rJ,caseO,aS]
def Pu (a:LN):LN->Bool:=
 List.rec (motive:=fun _=>LN->Bool) (fun b=>List.rec (motive:=fun _=>Bool) true (fun _ _ _=>false) b)
  (fun x _ ih b=>List.rec (motive:=fun _=>Bool) false (fun y r _=>Bool.rec (motive:=fun _=>Bool) false (ih r) (Nat.beq x y)) b) a
def GB:∀a b,Pu a b=bv a b
 |[],[]=>rfl
 |[],_::_=>rfl
 |_::_,[]=>rfl
 |x::a,y::b=>by
  show Bool.rec (motive:=fun _=>Bool) false (Pu a b) (Nat.beq x y)=bif Nat.beq x y then bv a b else false
  rw[GB a b];cases Nat.beq x y<;>rfl
def adh (op:BinOp)(a b:LN)(e:R)(k:D->R):R:=
 BinOp.rec (motive:=fun _=>R) e e e e e e e e e e e (bK (Pu a b) k) (nbK (Pu a b) k) e e e e op
def T_ (op:BinOp)(a b:LN)(k:D->R):adh op a b (rJ (bin op (.p (.str a)) (.p (.str b))) k) k=rJ (bin op (.p (.str a)) (.p (.str b))) k:=by
 cases op<;>simp only[adh,aaz,ý,GB]<;>simp[bin,sK,rJ,caseO]
def Θ (op:BinOp)(x y:D)(k:D->R):R:=
 jg x none fun a=>Da.rec (motive_1:=fun _=>R) (motive_2:=fun _=>PUnit.{1})
  (fun _=>none) (fun i m=>jg y none fun b=>ul b (rJ (bin op x y) k) fun j n=>sU (Nat.beq (kc i) (kc j)) (abR op i m n (rJ (bin op x y) k) k) (rJ (bin op x y) k))
  (fun s=>jg y none fun b=>q8 b none fun t=>adh op s t (rJ (bin op x y) k) k)
  (fun _ _=>none) (fun _ _ _=>none) none (fun _ _=>none) (fun _ _ _ _=>none) none (fun _ _ _=>none) none (fun _ _ _=>none) none (fun _ _ _=>none) (fun _ _=>rJ (bin op x y) k) ⟨⟩ (fun _ _ _ _=>⟨⟩) a
def UX (op:BinOp)(a:Da)(y:D)(h:Fj a=none)(hs:∀s,a≠ .str s):bin op (.p a) y=none:=by
 cases y<;>try (cases a<;>rfl)
 cases a<;>simp only[Fj,reduceCtorEq]at h<;>first
  |rfl
  |simp_all
def Ι (op:BinOp)(x y:D)(k:D->R):Θ op x y k=rJ (bin op x y) k:=by
 cases x<;>try rfl
 rename_i a;cases a;case int i m=>
  cases y<;>try rfl
  rename_i b;cases b<;>try rfl
  rename_i j n;show sU (Nat.beq (kc i) (kc j)) _ _=_;rw[ß,m6];by_cases h:i=j
  ·subst h;simp;exact Λ op i m n k
  ·simp[h]
 case str s=>
  cases y<;>try rfl
  rename_i b;cases b<;>try rfl
  exact T_ op s _ k
 case sym i s=>rfl
 all_goals (rw[UX op _ y rfl (by simp)];rfl)
def ď (c a b:D)(k:D->R):R:=jg c none fun x=>uk x none (k a) (k b)
def acR (d:D)(k:D->R):R:=jg d none fun x=>uk x none (k (.p (.bool false))) (k (.p (.bool true)))
def P7 {α:Type}(l:List α)(i:Nat)(k:α->R):R:=
 List.rec (motive:=fun _=>Nat->R) (fun _=>none) (fun x _ ih i=>Nat.rec (motive:=fun _=>R) (k x) (fun i _=>ih i) i) l i
def uY {α:Type}(k:α->R):∀(l:List α) (i:Nat),P7 l i k=caseO l[i]? none k
 |[],i=>by rfl
 |x::r,0=>rfl
 |x::r,i+1=>by
  show P7 r i k=_;rw[uY k r i];simp
def tl {α:Type}(l:List α):List α:=List.rec (motive:=fun _=>List α) [] (fun _ t _=>t) l
def tl4 {α:Type}(l:List α):List α:=tl (tl (tl (tl l)))
def aac {α:Type}(l:List α):List α:=tl4 (tl4 (tl4 (tl4 l)))
def R7 {α:Type}(l:List α)(j:Nat):List α:=Nat.rec (motive:=fun _=>List α) l (fun _ ih=>aac ih) j
variable {α:Type}
def İ (l:List α):tl l=l.drop 1:=by cases l<;>rfl
def aad (l:List α):aac l=l.drop 16:=by
 simp only[aac,tl4,İ,mξ]
def A9 {α:Type}(l:List α):∀j,R7 l j=l.drop (16*j)
 |0=>rfl
 |j+1=>by
  show aac (R7 l j)=_;rw[aad,A9 l j,mξ];congr 1
def ϸ {α:Type}(l:List α)(i:Nat)(k:α->R):R:=P7 (R7 l (Nat.div i 16)) (Nat.mod i 16) k
def SA (l:List α)(i:Nat)(k:α->R):ϸ l i k=caseO l[i]? none k:=by
 unfold ϸ;rw[uY,A9,List.getElem?_drop];congr 2;exact Nat.div_add_mod i 16
def atK (es:LD)(i:Int)(k:Da->R):R:=im i (fun j=>ϸ es j k) fun _=>none
def abM (es:LD)(i:Int)(k:Da->R):atK es i k=caseO (cp es i) none k:=by
 cases i with
 |ofNat j=>exact SA es j k
 |negSucc j=>rfl
def iaK (esz:Nat)(x i:D)(e:R)(k:D->R):R:=
 jg x e fun x=>jB x none fun z es=>jg i none fun i=>ul i none fun _ i=>sU (Nat.beq z esz) (atK es i fun y=>k (.ip y 0)) none
def ixK (x i:D)(k:D->R):R:=
 jg x none fun x=>q8 x none fun s=>jg i none fun i=>ul i none fun _ i=>im i (fun j=>ϸ s j fun b=>k (.p (.int .u8 (Int.ofNat b)))) fun _=>none
def faK (off:Nat)(d:D)(e:R)(k:D->R):R:=
 D.rec (motive_1:=fun _=>R) (motive_2:=fun _=>PUnit.{1})
  (fun _=>e) (fun _ _=>none) (fun _ _=>none) (fun id o=>k (.box id (o+off))) (fun id i o=>k (.el id i (o+off))) (fun x o=>k (.ip x (o+off)))
  (fun _ _ _ _=>none) (fun _ _ _=>none) (fun _=>none) (fun _ _ _=>none) (fun _ _ _=>none) none ⟨⟩ (fun _ _ _ _=>⟨⟩) d
def ā (d:D)(e:R)(k:D->R):R:=
 D.rec (motive_1:=fun _=>R) (motive_2:=fun _=>PUnit.{1})
  (fun _=>e) (fun _ _=>none) (fun _ _=>none) (fun _ _=>k d) (fun _ _ _=>k d) (fun _ _=>k d)
  (fun _ _ _ _=>none) (fun _ _ _=>none) (fun _=>none) (fun _ _ _=>k d) (fun _ _ _=>k d) none ⟨⟩ (fun _ _ _ _=>⟨⟩) d
def mJ (o:Ob)(e:R)(k:List D->R):R:=
 Ob.rec (motive:=fun _=>R) (fun cs=>k cs) (fun _=>e) (fun _=>e) (fun _ _=>e) (fun _ _=>e) e e (fun _ _=>e) (fun _=>e) o
def Hl (d:D)(hp:List Ob)(e:R)(k:D->R):R:=
 D.rec (motive_1:=fun _=>R) (motive_2:=fun _=>PUnit.{1})
  (fun _=>e) (fun _ _=>none) (fun _ _=>none)
  (fun id off=>P7 hp id fun o=>mJ o none fun cs=>P7 cs off k)
  (fun _ _ _=>e)
  (fun x off=>P7 (cells x) off fun x=>k (.p x))
  (fun _ _ _ _=>none) (fun _ _ _=>none) (fun _=>none) (fun _ _ _=>none) (fun _ _ _=>none) none ⟨⟩ (fun _ _ _ _=>⟨⟩) d
def Ϭ (i:Nat)(d:D)(k:D->R):R:=
 D.rec (motive_1:=fun _=>R) (motive_2:=fun _=>PUnit.{1})
  (fun _=>none) (fun _ _=>none) (fun ds _=>P7 ds i k) (fun _ _=>none) (fun _ _ _=>none) (fun _ _=>none)
  (fun _ _ _ _=>none) (fun _ _ _=>none) (fun _=>none) (fun _ _ _=>none) (fun _ _ _=>none) none ⟨⟩ (fun _ _ _ _=>⟨⟩) d
def L4 {α:Type}(l:List α):Nat:=List.rec (motive:=fun _=>Nat) 0 (fun _ _ ih=>Nat.succ ih) l
def mN {α:Type}:∀l:List α,L4 l=l.length
 |[]=>rfl
 |_::r=>congrArg Nat.succ (mN r)
def xk (d:D)(k:Nat->R):R:=
 D.rec (motive_1:=fun _=>R) (motive_2:=fun _=>PUnit.{1})
  (fun x=>jB x none fun _ es=>k (L4 es)) (fun _ _=>none) (fun _ _=>none) (fun _ _=>none) (fun _ _ _=>none) (fun _ _=>none) (fun _ _ len _=>k len) (fun _ _ es=>k (L4 es)) (fun _=>none) (fun _ _ _=>none) (fun _ _ _=>none) none ⟨⟩ (fun _ _ _ _=>⟨⟩) d
def WE (d:D)(k:Nat->R):xk d k=caseO (vt d) none k:=by
 cases d<;>try rfl
 ·rename_i x;cases x<;>try rfl
  ·simp only[xk,jB,mN,vt,caseO]
  ·simp only[xk,jB,mN,vt,caseO]
 ·simp only[xk,mN,vt,caseO]
def l_ (n:Nat)(k:D->R):R:=Nat.rec (motive:=fun _=>R) (k (.p (.int .i64 (.ofNat 0)))) (fun m _=>k (.p (.int .i64 (.ofNat (Nat.succ m))))) n
def SL (n:Nat)(k:D->R):l_ n k=k (.p (ŏ n)):=by cases n<;>rfl
def acG (kd:Nat)(d:D)(e:R)(k:D->R):R:=
 Nat.rec (motive:=fun _=>R) (jg d none fun x=>q8 x none fun s=>l_ (L4 s) k)
  (fun j _=>Nat.rec (motive:=fun _=>R) (xk d fun n=>l_ n k) (fun _ _=>e) j) kd
def MK (cs:List α)(off:Nat):sub cs off 1=cs[off]?.map fun x=>[x]:=by
 unfold sub;cases h:Nat.ble (off+1) cs.length
 ·have:cs.length<=off:=by
   rcases lυ off cs.length with h1|h1
   ·rw[Nat.ble_eq.mpr h1]at h;cases h
   ·exact h1
  simp_all
 ·have h1:off<cs.length:=Nat.ble_eq.mp h;simp[lθ h1,List.take_one,List.head?_drop]
def kM (o:Option gx)(k:D->R):R:=caseO o none fun e=>k e.1
def nS:O->Bool
 | .mv=>true
 | .pick=>true
 | .build _ _=>true
 | .load _ _=>true
 | .nilck=>true
 | .bin _=>true
 | .binB _=>true
 | .binN _ _=>true
 | .binS _ _=>true
 | .un _=>true
 | .conv _=>true
 | .mkif _=>true
 | .mkfn _=>true
 | .slStr _ _=>true
 | .fa _=>true
 | .fld _ _ _=>true
 | .ia _=>true
 | .iaa _ _=>true
 | .ix=>true
 | .lkp _ _ _=>true
 | .ext _=>true
 | .len _=>true
 | .cap=>true
 | .min2=>true
 | .max2=>true
 | .same=>true
 | .assertT _ _ _=>true
 | .b2s=>true
 | .s2b=>true
 |_=>false
def Tc (o:Option gx):Prop:=∀e,o=some e->e.2=([],[])
def Qq:Tc none:=by intro e h;cases h
def Wr (d:D):Tc (val d):=by intro e h;cases h;rfl
def Qr (o:Option Da):Tc (mh o):=by cases o<;>(intro e h;cases h;try rfl)
def yc {call:aw}{base kk:Nat}{o:O}{vs:List D}{ids:LN}{obs:List Ob}{len:Nat}(h:nS o=true):Tc (rD call base o kk vs ids obs len):=by
 cases o<;>simp only[nS,Bool.false_eq_true]at h<;>
  simp only[rD,aMv,Ee,sF,ik,sG,F9,YB,YC,Ed,aUn,RA,RC,Kc,oF,aFa,J9,RB,Ka,ż,O4,UR,Kb,UQ,abB]<;>
  (repeat' (first|exact Qq|exact Wr _|exact Qr _|rfl|split|(simp only[cond_eq_ite])))
def yb {o:O}(h:nS o=true):ed o=false:=by
 cases o<;>simp_all [nS,ed]
section eqs
variable {call:aw} {base kk:Nat} {hp:List Ob} {k:KV}
def cT {o:O}{vs:List D}(h:nS o=true):dZ call base o kk vs hp k=kM (rD call base o kk vs (bM o vs hp) ((bM o vs hp).map (aX hp)) hp.length) fun v=>k v hp:=by
 have hq:=yc (call:=call) (base:=base) (kk:=kk) (vs:=vs) (ids:=bM o vs hp) (obs:=(bM o vs hp).map (aX hp)) (len:=hp.length) h;simp only[dZ,yb h,cond_true];cases ha:rD call base o kk vs (bM o vs hp) ((bM o vs hp).map (aX hp)) hp.length with
 |none=>rfl
 |some e=>
  obtain⟨v,ups,new⟩:=e;have:=hq _ ha;obtain⟨rfl,rfl⟩:=this;rfl
def Vg {o:Option Da}{k:D->R}:kM (mh o) k=rJ o k:=by cases o<;>rfl
def Μ (op:BinOp)(x y:D):dZ call base (.bin op) kk [x,y] hp k=Θ op x y fun v=>k v hp:=by
 rw[Ι,cT rfl];exact Vg
def Ē (c a b:D):dZ call base .pick kk [c,a,b] hp k=ď c a b fun v=>k v hp:=by
 cases c<;>try rfl
 rename_i x;cases x<;>try rfl
 rename_i b;cases b<;>rfl
def x_ (x:D):dZ call base (.un .not) kk [x] hp k=acR x fun v=>k v hp:=by
 cases x<;>try rfl
 rename_i x;cases x<;>try rfl
 rename_i b;cases b<;>rfl
def acx (esz:Nat)(x i:D):dZ call base (.ia esz) kk [x,i] hp k=iaK esz x i (kM (RB esz [x,i]) fun v=>k v hp) fun v=>k v hp:=by
 rw[cT rfl];show kM (RB esz [x,i]) (fun v=>k v hp)=_;cases x<;>try rfl
 rename_i x;cases x<;>try rfl
 all_goals
  rename_i z es;cases i<;>try rfl
  rename_i i;cases i<;>try rfl
  rename_i q i;simp only[RB,iaK,jg,jB,ul,abM];cases Nat.beq z esz
  ·rfl
  ·cases cp es i<;>rfl
def acC (x i:D):dZ call base .ix kk [x,i] hp k=ixK x i fun v=>k v hp:=by
 rw[cT rfl];show kM (ż [x,i]) (fun v=>k v hp)=_;cases x<;>try rfl
 rename_i x;cases x<;>try rfl
 rename_i s;cases i<;>try rfl
 rename_i i;cases i<;>try rfl
 rename_i q i;simp only[ż,ixK,jg,q8,ul];cases i with
 |negSucc j=>rfl
 |ofNat j=>
  simp only[im,SA];have h:(bif aS 0 (Int.ofNat j)then s[(Int.ofNat j).toNat]? else none)=s[j]?:=rfl;rw[h];cases s[j]?<;>rfl
def acm (off:Nat)(x:D):dZ call base (.fa off) kk [x] hp k=faK off x (kM (aFa off [x]) fun v=>k v hp) fun v=>k v hp:=by
 rw[cT rfl];cases x<;>rfl
def VZ (x:D):dZ call base .nilck kk [x] hp k=ā x (kM (sG [x]) fun v=>k v hp) fun v=>k v hp:=by
 rw[cT rfl];cases x<;>rfl
def ϭ (i:Nat)(x:D):dZ call base (.ext i) kk [x] hp k=Ϭ i x fun v=>k v hp:=by
 rw[cT rfl];cases x<;>try rfl
 rename_i ds;show kM (O4 i [.tup ds]) (fun v=>k v hp)=_;simp only[O4,Ϭ,uY];cases ds[i]?<;>rfl
def m_ (kd:Nat)(x:D):dZ call base (.len kd) kk [x] hp k=acG kd x (kM (UR kd [x] (bM (.len kd) [x] hp) ((bM (.len kd) [x] hp).map (aX hp))) fun v=>k v hp) fun v=>k v hp:=by
 rw[cT rfl];match kd with
 |0=>
  cases x<;>try rfl
  rename_i x;cases x<;>try rfl
  simp only[acG,SL,mN];rfl
 |1=>
  show kM (match vt x with|some n=>val (.p (ŏ n))|none=>none) _=xk x fun n=>l_ n fun v=>k v hp
  simp only[WE,SL];cases vt x<;>rfl
 |n+2=>rfl
def VU (x:D):dZ call base (.load 1 false) kk [x] hp k=Hl x hp (kM (ik 1 false [x] ((dids x).map (aX hp))) fun v=>k v hp) fun v=>k v hp:=by
 rw[cT rfl];cases x<;>try rfl
 ·rename_i id off;show kM (ik 1 false [.box id off] [aX hp id]) (fun v=>k v hp)=_;simp only[Hl,uY,ik,aX,lω];cases hp[id]? with
  |none=>rfl
  |some o=>
   cases o<;>try rfl
   rename_i cs;simp only[Option.getD_some,MK,caseO,mJ];cases cs[off]?<;>rfl
 ·rename_i x off;show kM (ik 1 false [.ip x off] []) (fun v=>k v hp)=_;simp only[Hl,uY,ik,MK];cases(cells x)[off]?<;>rfl
end eqs
end
end
section
def forceN (m:Nat)(k:Nat->R):R:=Nat.rec (motive:=fun _=>R) (k 0) (fun m _=>k (Nat.succ m)) m
def lu (m:Nat)(k:Nat->R):forceN m k=k m:=by cases m<;>rfl
def GI (n:Int)(k:Int->R):R:=im n (fun m=>forceN m fun m=>k (.ofNat m)) fun m=>forceN m fun m=>k (.negSucc m)
def EG (n:Int)(k:Int->R):GI n k=k n:=by cases n<;>simp only[GI,im,lu]
def forceNs (l:LN)(k:LN->R):R:=
 List.rec (motive:=fun _=>(LN->R)->R) (fun k=>k []) (fun x _ ih k=>forceN x fun x=>ih fun r=>k (x::r)) l k
def lW:∀(l:LN) (k:LN->R),forceNs l k=k l
 |[],k=>rfl
 |x::r,k=>by
  show forceN x (fun x=>forceNs r fun r=>k (x::r))=_;rw[lu,lW r]
def rc (x:Da)(k:Da->R):R:=
 Da.rec (motive_1:=fun _=>R) (motive_2:=fun _=>PUnit.{1})
  (fun b=>Bool.rec (motive:=fun _=>R) (k (.bool false)) (k (.bool true)) b) (fun i n=>GI n fun n=>k (.int i n)) (fun s=>k (.str s)) (fun cs _=>k (.agg cs)) (fun z es _=>k (.slice z es)) (k .nilptr) (fun x _=>k (.ptr x)) (fun ks vs _ _=>k (.map ks vs)) (k .nilmap) (fun f cs _=>k (.fn f cs)) (k .nilfn) (fun t x _=>k (.iface t x)) (k .nilif) (fun z es _=>k (.sliceE z es)) (fun i s=>k (.sym i s)) ⟨⟩ (fun _ _ _ _=>⟨⟩) x
def sQ (x:Da)(k:Da->R):rc x k=k x:=by
 cases x<;>try rfl
 ·rename_i b;cases b<;>rfl
 ·simp only[rc,EG]
def jF (d:D)(k:D->R):R:=
 D.rec (motive_1:=fun _=>R) (motive_2:=fun _=>PUnit.{1})
  (fun x=>rc x fun x=>k (.p x)) (fun cs _=>k (.agg cs)) (fun ds _=>k (.tup ds)) (fun id off=>forceN id fun id=>forceN off fun off=>k (.box id off)) (fun id i off=>forceN id fun id=>forceN i fun i=>forceN off fun off=>k (.el id i off)) (fun x off=>k (.ip x off))
  (fun id lo len z=>forceN id fun id=>forceN lo fun lo=>forceN len fun len=>k (.arr id lo len z)) (fun g z es=>k (.sl g z es)) (fun id=>forceN id fun id=>k (.map id)) (fun f cs _=>k (.fn f cs)) (fun t d _=>k (.iface t d)) (k .junk) ⟨⟩ (fun _ _ _ _=>⟨⟩) d
def nE (d:D)(k:D->R):jF d k=k d:=by
 cases d<;>simp only[jF,lu,sQ]
def forceTm (tm:Tm)(k:Tm->R):R:=
 Tm.rec (motive:=fun _=>(Tm->R)->R) (fun k=>k .nil) (fun s d _ ih k=>jF d fun d=>ih fun r=>k (.cons s d r)) tm k
def sS:∀(tm:Tm) (k:Tm->R),forceTm tm k=k tm
 | .nil,k=>rfl
 | .cons s d r,k=>by
  show jF d (fun d=>forceTm r fun r=>k (.cons s d r))=_;rw[nE,sS r]
def forceDs (ds:List D)(k:List D->R):R:=
 List.rec (motive:=fun _=>(List D->R)->R) (fun k=>k []) (fun d _ ih k=>jF d fun d=>ih fun r=>k (d::r)) ds k
def gX:∀(ds:List D) (k:List D->R),forceDs ds k=k ds
 |[],k=>rfl
 |d::r,k=>by
  show jF d (fun d=>forceDs r fun r=>k (d::r))=_;rw[nE,gX r]
def uB (ds:LD)(k:LD->R):R:=
 List.rec (motive:=fun _=>(LD->R)->R) (fun k=>k []) (fun d _ ih k=>rc d fun d=>ih fun r=>k (d::r)) ds k
def oN:∀(ds:LD) (k:LD->R),uB ds k=k ds
 |[],k=>rfl
 |d::r,k=>by
  show rc d (fun d=>uB r fun r=>k (d::r))=_;rw[sQ,oN r]
def zr (o:Ob)(k:Ob->R):R:=
 Ob.rec (motive:=fun _=>R) (fun cs=>forceDs cs fun cs=>k (.box cs)) (fun es=>uB es fun es=>k (.arr es)) (fun es=>k (.fz es)) (fun ks vs=>k (.map ks vs)) (fun ks vs=>k (.fzm ks vs)) (k .dead) (k .unborn) (fun ks vs=>forceDs vs fun vs=>k (.mapd ks vs)) (fun es=>k (.byt es)) o
def PB (o:Ob)(k:Ob->R):zr o k=k o:=by
 cases o<;>simp only[zr,gX,oN]
def zq (hp:List Ob)(k:List Ob->R):R:=
 List.rec (motive:=fun _=>(List Ob->R)->R) (fun k=>k []) (fun o _ ih k=>zr o fun o=>ih fun r=>k (o::r)) hp k
def sR:∀(hp:List Ob) (k:List Ob->R),zq hp k=k hp
 |[],k=>rfl
 |o::r,k=>by
  show zr o (fun o=>zq r fun r=>k (o::r))=_;rw[PB,sR r]
def zp (o:Ob)(k:Ob->R):R:=
 Ob.rec (motive:=fun _=>R) (fun cs=>forceDs cs fun cs=>k (.box cs)) (fun es=>k (.arr es)) (fun es=>k (.fz es)) (fun ks vs=>k (.map ks vs)) (fun ks vs=>k (.fzm ks vs)) (k .dead) (k .unborn) (fun ks vs=>forceDs vs fun vs=>k (.mapd ks vs)) (fun es=>k (.byt es)) o
def PA (o:Ob)(k:Ob->R):zp o k=k o:=by
 cases o<;>simp only[zp,gX]
def forceHb (hp:List Ob)(k:List Ob->R):R:=
 List.rec (motive:=fun _=>(List Ob->R)->R) (fun k=>k []) (fun o _ ih k=>zp o fun o=>ih fun r=>k (o::r)) hp k
def lV:∀(hp:List Ob) (k:List Ob->R),forceHb hp k=k hp
 |[],k=>rfl
 |o::r,k=>by
  show zp o (fun o=>forceHb r fun r=>k (o::r))=_;rw[PA,lV r]
def s_ (l:LN)(x:Nat):Bool:=List.rec (motive:=fun _=>Bool) false (fun y _ ih=>Bool.rec (motive:=fun _=>Bool) ih true (Nat.beq x y)) l
def SR (x:Nat):∀l,s_ l x=l.contains x
 |[]=>rfl
 |y::r=>by
  show Bool.rec (motive:=fun _=>Bool) (s_ r x) true (Nat.beq x y)=_;rw[SR x r,List.contains_cons];have:(x==y)=Nat.beq x y:=by rw[mε,beq_iff_eq,Nat.beq_eq]
  rw[this];cases Nat.beq x y<;>rfl
def Tp (l:LN)(x:Nat):LN:=List.rec (motive:=fun _=>LN) [x] (fun y _ ih=>y::ih) l
def Nw (x:Nat):∀l,Tp l x=l++[x]
 |[]=>rfl
 |y::r=>by
  show y::Tp r x=_;rw[Nw x r];rfl
def Ml (hp:List Ob)(i:Nat):Ob:=List.rec (motive:=fun _=>Nat->Ob) (fun _=> .dead) (fun o _ ih i=>Nat.rec (motive:=fun _=>Ob) o (fun i _=>ih i) i) hp i
def m9:∀(hp:List Ob) (i:Nat),Ml hp i=hp.getD i .dead
 |[],i=>by rfl
 |o::r,0=>rfl
 |o::r,i+1=>by
  show Ml r i=_;rw[m9 r i];simp
def Ez (d:D):LN->LN:=
 D.rec (motive_1:=fun _=>LN->LN) (motive_2:=fun _=>LN->LN)
  (fun _ ws=>ws) (fun _ ih ws=>ih ws) (fun _ ih ws=>ih ws) (fun id _ ws=>id::ws) (fun id _ _ ws=>id::ws) (fun _ _ ws=>ws)
  (fun id _ _ _ ws=>id::ws) (fun _ _ _ ws=>ws) (fun id ws=>id::ws) (fun _ _ ih ws=>ih ws) (fun _ _ ih ws=>ih ws) (fun ws=>ws) (fun ws=>ws) (fun _ _ ihd ihr ws=>ihd (ihr ws)) d
def eL (ds:List D)(ws:LN):LN:=List.rec (motive:=fun _=>LN) ws (fun d _ ih=>Ez d ih) ds
mutual
def uq:∀(d:D) (ws:LN),Ez d ws=dids d++ws
 | .p _,ws=>rfl
 | .agg cs,ws=>ut cs ws
 | .tup cs,ws=>ut cs ws
 | .box _ _,ws=>rfl
 | .el _ _ _,ws=>rfl
 | .ip _ _,ws=>rfl
 | .arr _ _ _ _,ws=>rfl
 | .sl _ _ _,ws=>rfl
 | .map _,ws=>rfl
 | .fn _ cs,ws=>ut cs ws
 | .iface _ d,ws=>uq d ws
 | .junk,ws=>rfl
def ut:∀(ds:List D) (ws:LN),D.rec_1 (motive_1:=fun _=>LN->LN) (motive_2:=fun _=>LN->LN)
  (fun _ ws=>ws) (fun _ ih ws=>ih ws) (fun _ ih ws=>ih ws) (fun id _ ws=>id::ws) (fun id _ _ ws=>id::ws) (fun _ _ ws=>ws)
  (fun id _ _ _ ws=>id::ws) (fun _ _ _ ws=>ws) (fun id ws=>id::ws) (fun _ _ ih ws=>ih ws) (fun _ _ ih ws=>ih ws) (fun ws=>ws) (fun ws=>ws) (fun _ _ ihd ihr ws=>ihd (ihr ws)) ds ws=dids.didsL ds++ws
 |[],ws=>rfl
 |d::r,ws=>by
  show Ez d (D.rec_1 (motive_1:=fun _=>LN->LN) (motive_2:=fun _=>LN->LN) _ _ _ _ _ _ _ _ _ _ _ _ _ _ r ws)=_;rw[uq d,ut r];simp only[dids.didsL,lε]
end
def fj (ws:LN):∀ds,eL ds ws=dids.didsL ds++ws
 |[]=>rfl
 |d::r=>by
  show Ez d (eL r ws)=_;rw[uq,fj ws r];simp only[dids.didsL,lε]
def BV (o:Ob)(ws:LN):LN:=Ob.rec (motive:=fun _=>LN) (fun cs=>eL cs ws) (fun _=>ws) (fun _=>ws) (fun _ _=>ws) (fun _ _=>ws) ws ws (fun _ vs=>eL vs ws) (fun _=>ws) o
def E1 (o:Ob)(ws:LN):BV o ws=ky o++ws:=by
 cases o<;>first|rfl|exact fj ws _
def fW (hp:List Ob)(n:Nat):LN->LN->LN:=
 Nat.rec (motive:=fun _=>LN->LN->LN) (fun _ acc=>acc)
  (fun _ ih ws acc=>List.rec (motive:=fun _=>LN) acc (fun id ws _=>Bool.rec (motive:=fun _=>LN) (ih (BV (Ml hp id) ws) (Tp acc id)) (ih ws acc) (s_ acc id)) ws) n
def eu (hp:List Ob):∀(n:Nat) (ws acc:LN),fW hp n ws acc=close hp n ws acc
 |0,ws,acc=>rfl
 |n+1,[],acc=>rfl
 |n+1,id::ws,acc=>by
  show Bool.rec (motive:=fun _=>LN) (fW hp n (BV (Ml hp id) ws) (Tp acc id)) (fW hp n ws acc) (s_ acc id)=_;rw[eu hp n,eu hp n,SR,Nw,E1,m9];simp only[close];cases acc.contains id<;>simp
def kQ (ids:LN)(id:Nat):Option Nat:=
 List.rec (motive:=fun _=>Nat->Option Nat) (fun _=>none) (fun x _ ih n=>Bool.rec (motive:=fun _=>Option Nat) (ih (Nat.succ n)) (some n) (Nat.beq x id)) ids 0
def lk (ids:LN):kQ ids=idx ids:=by
 funext id
 have go:∀(l:LN) (n:Nat),List.rec (motive:=fun _=>Nat->Option Nat) (fun _=>none) (fun x _ ih n=>Bool.rec (motive:=fun _=>Option Nat) (ih (Nat.succ n)) (some n) (Nat.beq x id)) l n=idx.go id l n:=by
  intro l;induction l with
  |nil=>intro n;rfl
  |cons x r ih=>
   intro n;show Bool.rec (motive:=fun _=>Option Nat) _ (some n) (Nat.beq x id)=bif Nat.beq x id then some n else idx.go id r (n+1)
   rw[<-ih (n+1)];cases Nat.beq x id<;>rfl
 exact go ids 0
def jb (σ:Nat->Option Nat)(d:D):D:=
 D.rec (motive_1:=fun _=>D) (motive_2:=fun _=>List D)
  (fun x=> .p x) (fun _ ih=> .agg ih) (fun _ ih=> .tup ih) (fun id off=>Option.rec (motive:=fun _=>D) .junk (fun j=> .box j off) (σ id)) (fun id i off=>Option.rec (motive:=fun _=>D) .junk (fun j=> .el j i off) (σ id)) (fun x off=> .ip x off)
  (fun id lo len z=>Option.rec (motive:=fun _=>D) .junk (fun j=> .arr j lo len z) (σ id)) (fun g z es=> .sl g z es) (fun id=>Option.rec (motive:=fun _=>D) .junk (fun j=> .map j) (σ id)) (fun f _ ih=> .fn f ih) (fun t _ ih=> .iface t ih) .junk [] (fun _ _ ihd ihr=>ihd::ihr) d
def gC (σ:Nat->Option Nat)(ds:List D):List D:=List.rec (motive:=fun _=>List D) [] (fun d _ ih=>jb σ d::ih) ds
mutual
def gK (σ:Nat->Option Nat):∀(d:D),jb σ d=mapD σ d
 | .p _=>rfl
 | .agg cs=>by show D.agg _=_;rw[uW σ cs];rfl
 | .tup cs=>by show D.tup _=_;rw[uW σ cs];rfl
 | .box id _=>by simp only[jb,mapD];cases σ id<;>rfl
 | .el id _ _=>by simp only[jb,mapD];cases σ id<;>rfl
 | .ip _ _=>rfl
 | .arr id _ _ _=>by simp only[jb,mapD];cases σ id<;>rfl
 | .sl _ _ _=>rfl
 | .map id=>by simp only[jb,mapD];cases σ id<;>rfl
 | .fn _ cs=>by show D.fn _ _=_;rw[uW σ cs];rfl
 | .iface _ d=>by
  show D.iface _ (jb σ d)=_;rw[gK σ d];rfl
 | .junk=>rfl
def uW (σ:Nat->Option Nat):∀(ds:List D),D.rec_1 (motive_1:=fun _=>D) (motive_2:=fun _=>List D)
  (fun x=> .p x) (fun _ ih=> .agg ih) (fun _ ih=> .tup ih) (fun id off=>Option.rec (motive:=fun _=>D) .junk (fun j=> .box j off) (σ id)) (fun id i off=>Option.rec (motive:=fun _=>D) .junk (fun j=> .el j i off) (σ id)) (fun x off=> .ip x off)
  (fun id lo len z=>Option.rec (motive:=fun _=>D) .junk (fun j=> .arr j lo len z) (σ id)) (fun g z es=> .sl g z es) (fun id=>Option.rec (motive:=fun _=>D) .junk (fun j=> .map j) (σ id)) (fun f _ ih=> .fn f ih) (fun t _ ih=> .iface t ih) .junk [] (fun _ _ ihd ihr=>ihd::ihr) ds=mapD.mapDL σ ds
 |[]=>rfl
 |d::r=>by
  show jb σ d::_=_;rw[uW σ r,gK σ d];rfl
end
def jH (σ:Nat->Option Nat):∀ds,gC σ ds=mapD.mapDL σ ds
 |[]=>rfl
 |d::r=>by
  show jb σ d::gC σ r=_;rw[gK,jH σ r];rfl
def qJ (σ:Nat->Option Nat)(o:Ob):Ob:=Ob.rec (motive:=fun _=>Ob) (fun cs=> .box (gC σ cs)) (fun es=> .arr es) (fun es=> .fz es) (fun ks vs=> .map ks vs) (fun ks vs=> .fzm ks vs) .dead .unborn (fun ks vs=> .mapd ks (gC σ vs)) (fun es=> .byt es) o
def ET (σ:Nat->Option Nat)(o:Ob):qJ σ o=ck σ o:=by
 cases o<;>try rfl
 ·simp only[qJ,ck,jH]
 ·simp only[qJ,ck,jH]
def pd (ids:LN)(hp:List Ob):List Ob:=List.rec (motive:=fun _=>List Ob) [] (fun i _ ih=>qJ (kQ ids) (Ml hp i)::ih) ids
def mf (ids:LN)(hp:List Ob):pd ids hp=bZ ids hp:=by
 have go:∀l:LN,List.rec (motive:=fun _=>List Ob) [] (fun i _ ih=>qJ (kQ ids) (Ml hp i)::ih) l=l.map fun i=>ck (idx ids) (aX hp i):=by
  intro l;induction l with
  |nil=>rfl
  |cons x r ih=>
   show qJ (kQ ids) (Ml hp x)::_=_;rw[ih,ET,lk,m9];rfl
 exact go ids
def pC (σ:Nat->Option Nat)(hp:List Ob):List Ob:=List.rec (motive:=fun _=>List Ob) [] (fun o _ ih=>qJ σ o::ih) hp
def nH (σ:Nat->Option Nat):∀hp,pC σ hp=hp.map (ck σ)
 |[]=>rfl
 |o::r=>by
  show qJ σ o::pC σ r=_;rw[ET,nH σ r];rfl
def jR (m:Nat)(hp:List Ob):LN:=List.rec (motive:=fun _=>Nat->LN) (fun _=>[]) (fun o _ ih m=>Nat.rec (motive:=fun _=>LN) [] (fun m _=>BV o (ih m)) m) hp m
def jK:∀(hp:List Ob) (m:Nat),jR m hp=(hp.take m).flatMap ky
 |[],m=>by simp[jR]
 |o::r,0=>rfl
 |o::r,m+1=>by
  show BV o (jR m r)=_;rw[E1,jK r m];simp
def Ih (hp:List Ob)(i:Nat)(o:Ob)(k:List Ob->R):R:=
 List.rec (motive:=fun _=>Nat->(List Ob->R)->R) (fun _ k=>k []) (fun x r ih i k=>Nat.rec (motive:=fun _=>R) (k (o::r)) (fun i _=>ih i fun r=>k (x::r)) i) hp i k
def vr (o:Ob):∀(hp:List Ob) (i:Nat) (k:List Ob->R),Ih hp i o k=k (xZ hp i o)
 |[],i,k=>by rfl
 |x::r,0,k=>rfl
 |x::r,i+1,k=>by
  show Ih r i o (fun r=>k (x::r))=_;rw[vr o r i];rfl
def unb (o:Ob)(t:R):R:=Ob.rec (motive:=fun _=>R) (fun _=>none) (fun _=>none) (fun _=>none) (fun _ _=>none) (fun _ _=>none) none t (fun _ _=>none) (fun _=>none) o
def QX (o:Ob)(t:R):unb o t=bif dq o then t else none:=by cases o<;>rfl
def TA (l:LN)(n:Nat)(k:LN->R):R:=
 List.rec (motive:=fun _=>Nat->(LN->R)->R) (fun _ k=>k []) (fun x _ ih n k=>Nat.rec (motive:=fun _=>R) (k []) (fun n _=>ih n fun r=>k (x::r)) n) l n k
def NC:∀(l:LN) (n:Nat) (k:LN->R),TA l n k=k (l.take n)
 |[],n,k=>by simp[TA]
 |x::r,0,k=>rfl
 |x::r,n+1,k=>by
  show TA r n (fun r=>k (x::r))=_;rw[NC r n];rfl
def tlN {α:Type}(l:List α)(n:Nat):List α:=Nat.rec (motive:=fun _=>List α) l (fun _ ih=>tl ih) n
def QT {α:Type}(l:List α):∀n,tlN l n=l.drop n
 |0=>rfl
 |n+1=>by
  show tl (tlN l n)=_;rw[İ,QT l n,mξ]
def ZM {α:Type}(l:List α)(n:Nat):List α:=tlN (R7 l (Nat.div n 16)) (Nat.mod n 16)
variable {α:Type}
def ZN (l:List α)(n:Nat):ZM l n=l.drop n:=by
 unfold ZM;rw[QT,A9,mξ];congr 1;exact Nat.div_add_mod n 16
def okF (d:D):Bool:=
 D.rec (motive_1:=fun _=>Bool) (motive_2:=fun _=>PUnit.{1})
  (fun _=>true) (fun _ _=>false) (fun _ _=>false) (fun _ _=>true) (fun _ _ _=>true) (fun _ _=>true) (fun _ _ _ _=>true) (fun _ _ _=>true) (fun _=>true) (fun _ _ _=>true) (fun _ _ _=>true) false ⟨⟩ (fun _ _ _ _=>⟨⟩) d
def acY (d:D):okF d=dK d:=by cases d<;>rfl
def Ê (xs:List D)(n:Nat):Bool:=
 List.rec (motive:=fun _=>Nat->Bool) (fun n=>Nat.rec (motive:=fun _=>Bool) true (fun _ _=>false) n) (fun d _ ih n=>Nat.rec (motive:=fun _=>Bool) false (fun m _=>Bool.rec (motive:=fun _=>Bool) false (ih m) (okF d)) n) xs n
def GF:∀(xs:List D) (n:Nat),Ê xs n=(Nat.beq xs.length n&&xs.all dK)
 |[],0=>rfl
 |[],n+1=>rfl
 |d::r,0=>rfl
 |d::r,n+1=>by
  show Bool.rec (motive:=fun _=>Bool) false (Ê r n) (okF d)=(Nat.beq r.length n&&(dK d&&r.all dK));rw[GF r n,acY];cases dK d<;>simp
def Ù {α:Type}(xs:List α)(n:Nat):Bool:=
 List.rec (motive:=fun _=>Nat->Bool) (fun n=>Nat.rec (motive:=fun _=>Bool) true (fun _ _=>false) n) (fun _ _ ih n=>Nat.rec (motive:=fun _=>Bool) true (fun m _=>ih m) n) xs n
def zu {α:Type}:∀(xs:List α) (n:Nat),Ù xs n=Nat.ble n xs.length
 |[],0=>rfl
 |[],n+1=>rfl
 |d::r,0=>rfl
 |d::r,n+1=>zu r n
def S5 (xs:List D):List D->List D:=List.rec (motive:=fun _=>List D->List D) (fun cs=>cs) (fun x _ ih cs=>x::ih (tl cs)) xs
def MP:∀(xs cs:List D),S5 xs cs=xs++cs.drop xs.length
 |[],cs=>rfl
 |x::r,cs=>by
  show x::S5 r (tl cs)=_;rw[MP r,İ,mξ];grind
def WH (cs:List D)(off:Nat)(xs:List D):List D:=
 List.rec (motive:=fun _=>Nat->List D) (fun _=>xs) (fun c r ih off=>Nat.rec (motive:=fun _=>List D) (S5 xs (c::r)) (fun o _=>c::ih o) off) cs off
def In (xs:List D):∀(cs:List D) (off:Nat),WH cs off xs=splice cs off xs
 |[],off=>by simp[WH,splice]
 |c::r,0=>by
  show S5 xs (c::r)=_;rw[MP];simp[splice]
 |c::r,o+1=>by
  show c::WH r o xs=_;rw[In xs r o];simp[splice,Nat.add_right_comm]
def ó (cs:LD):List D:=List.rec (motive:=fun _=>List D) [] (fun x _ ih=> .p x::ih) cs
def zA:∀cs,ó cs=cs.map .p
 |[]=>rfl
 |c::r=>by show D.p c::ó r=_;rw[zA r];rfl
def uo (d:D)(k:List D->R):R:=
 D.rec (motive_1:=fun _=>R) (motive_2:=fun _=>PUnit.{1})
  (fun x=>Da.rec (motive_1:=fun _=>R) (motive_2:=fun _=>PUnit.{1})
   (fun _=>k [d]) (fun _ _=>k [d]) (fun _=>k [d]) (fun cs _=>k (ó cs)) (fun _ _ _=>k [d]) (k [d]) (fun _ _=>k [d]) (fun _ _ _ _=>k [d]) (k [d]) (fun _ _ _=>k [d]) (k [d]) (fun _ _ _=>k [d]) (k [d]) (fun _ _ _=>k [d]) (fun _ _=>k [d]) ⟨⟩ (fun _ _ _ _=>⟨⟩) x)
  (fun ds _=>k ds) (fun _ _=>k [d]) (fun _ _=>k [d]) (fun _ _ _=>k [d]) (fun _ _=>k [d]) (fun _ _ _ _=>k [d]) (fun _ _ _=>k [d]) (fun _=>k [d]) (fun _ _ _=>k [d]) (fun _ _ _=>k [d]) (k [d]) ⟨⟩ (fun _ _ _ _=>⟨⟩) d
def A5 (d:D)(k:List D->R):uo d k=k (bz d):=by
 cases d<;>try rfl
 rename_i x;cases x<;>try rfl
 simp only[uo,zA,bz]
def YK (ds:List D)(e:R)(k:LD->R):R:=
 List.rec (motive:=fun _=>(LD->R)->R) (fun k=>k [])
  (fun d _ ih k=>jg d e fun x=>ih fun xs=>k (x::xs)) ds k
def Ki (e:R):∀(ds:List D) (k:LD->R),YK ds e k=match ko ds with
  |some xs=>k xs
  |none=>e
 |[],k=>rfl
 |d::r,k=>by
  cases d<;>try rfl
  rename_i x;show YK r e (fun xs=>k (x::xs))=_;rw[Ki e r];simp only[ko];grind
def Hr (ds:List D)(k:D->R):R:=YK ds (k (.agg ds)) fun xs=>k (.p (.agg xs))
def EW (ds:List D)(k:D->R):Hr ds k=k (BO ds):=by
 simp only[Hr,Ki,BO];grind
def É (ps:List (Nat×Nat)):List D->List D->(List D->R)->R:=
 List.rec (motive:=fun _=>List D->List D->(List D->R)->R)
  (fun cs ds k=>List.rec (motive:=fun _=>R) (k cs) (fun _ _ _=>none) ds)
  (fun p _ ih cs ds k=>List.rec (motive:=fun _=>R) none (fun d ds _=>uo d fun xs=>sU (Ê xs p.2) (sU (Ù cs (Nat.add p.1 p.2)) (ih (WH cs p.1 xs) ds k) none) none) ds) ps
def Ll:∀(ps:List (Nat×Nat)) (cs ds:List D) (k:List D->R),É ps cs ds k=caseO (rU cs ps ds) none k
 |[],cs,[],k=>rfl
 |[],cs,d::ds,k=>rfl
 |p::ps,cs,[],k=>rfl
 |(off,n)::ps,cs,d::ds,k=>by
  show uo d (fun xs=>sU (Ê xs n) (sU (Ù cs (Nat.add off n)) (É ps (WH cs off xs) ds k) none) none)=_
  simp only[A5,GF,zu,In,Ll ps,rU];have:Nat.add off n=off+n:=rfl;cases Nat.beq (bz d).length n<;>cases(bz d).all dK<;>cases Nat.ble (off+n) cs.length<;>rfl
def Gj (zs:List D)(ps:List (Nat×Nat))(vs:List D)(k:D->R):R:=É ps zs vs fun cs=>Hr cs k
def ĭ {α:Type}(l:List α)(n:Nat)(k:List α->R):R:=
 List.rec (motive:=fun _=>Nat->(List α->R)->R) (fun n k=>Nat.rec (motive:=fun _=>R) (k []) (fun _ _=>none) n) (fun x _ ih n k=>Nat.rec (motive:=fun _=>R) (k []) (fun n _=>ih n fun r=>k (x::r)) n) l n k
def ND {α:Type}:∀(l:List α) (n:Nat) (k:List α->R),ĭ l n k=bif Nat.ble n l.length then k (l.take n)else none
 |[],0,k=>rfl
 |[],n+1,k=>rfl
 |x::r,0,k=>rfl
 |x::r,n+1,k=>by
  show ĭ r n (fun r=>k (x::r))=_;rw[ND r n];rfl
def QO {α:Type}(l:List α)(off n:Nat)(k:List α->R):R:=sU (Ù l off) (ĭ (tlN l off) n k) none
def tg (agg:Bool)(ds:List D)(k:D->R):R:=Bool.rec (motive:=fun _=>R) (List.rec (motive:=fun _=>R) none (fun d r _=>List.rec (motive:=fun _=>R) (k d) (fun _ _ _=>none) r) ds) (Hr ds k) agg
def nN (agg:Bool)(ds:List D)(k:D->R):tg agg ds k=caseO (eA agg ds) none k:=by
 cases agg with
 |true=>simp only[tg,EW,eA,cond_true,caseO]
 |false=>
  match ds with
  |[]=>rfl
  |[d]=>rfl
  |_::_::_=>rfl
def SO (n:Nat)(agg:Bool)(d:D)(hp:List Ob)(e:R)(k:D->R):R:=
 D.rec (motive_1:=fun _=>R) (motive_2:=fun _=>PUnit.{1})
  (fun _=>e) (fun _ _=>none) (fun _ _=>none)
  (fun id off=>mJ (Ml hp id) none fun cs=>QO cs off n fun ds=>tg agg ds k)
  (fun _ _ _=>e)
  (fun x off=>QO (cells x) off n fun xs=>tg agg (ó xs) k)
  (fun _ _ _ _=>none) (fun _ _ _=>none) (fun _=>none) (fun _ _ _=>none) (fun _ _ _=>none) none ⟨⟩ (fun _ _ _ _=>⟨⟩) d
def Ë (off n:Nat)(agg:Bool)(d:D)(k:D->R):R:=
 D.rec (motive_1:=fun _=>R) (motive_2:=fun _=>PUnit.{1})
  (fun x=>Da.rec (motive_1:=fun _=>R) (motive_2:=fun _=>PUnit.{1})
   (fun _=>none) (fun _ _=>none) (fun _=>none) (fun cs _=>QO cs off n fun xs=>tg agg (ó xs) k) (fun _ _ _=>none) none (fun _ _=>none) (fun _ _ _ _=>none) none (fun _ _ _=>none) none (fun _ _ _=>none) none (fun _ _ _=>none) (fun _ _=>none) ⟨⟩ (fun _ _ _ _=>⟨⟩) x)
  (fun ds _=>QO ds off n fun ds=>tg agg ds k) (fun _ _=>none) (fun _ _=>none) (fun _ _ _=>none) (fun _ _=>none) (fun _ _ _ _=>none) (fun _ _ _=>none) (fun _=>none) (fun _ _ _=>none) (fun _ _ _=>none) none ⟨⟩ (fun _ _ _ _=>⟨⟩) d
def Gc (base kk:Nat)(zs:List D)(hp:List Ob)(k:KV):R:=
 forceN (Nat.add base kk) fun id=>unb (Ml hp id) (Ih hp id (.box zs) fun hp=>k (.box id 0) hp)
def Υ (base:Nat)(n kk:Nat)(d:D)(hp:List Ob)(k:KV):R:=
 forceN (Nat.add base kk) fun id=>unb (Ml hp id) (forceDs (bz d) fun cs=>sU ((bif Nat.beq n 1000003 then Nat.beq cs.length 3 else Nat.beq cs.length n&&!b3 cs)&&cs.all dK) (Ih hp id (.box cs) fun hp=>k (.box id 0) hp) none)
def QL (n:Nat)(a d:D)(hp:List Ob)(e:R)(k:KV):R:=
 D.rec (motive_1:=fun _=>R) (motive_2:=fun _=>PUnit.{1})
  (fun _=>none) (fun _ _=>none) (fun _ _=>none)
  (fun id off=>mJ (Ml hp id) none fun cs=>uo d fun xs=>sU (Ê xs n) (sU (Ù cs (Nat.add off n)) (forceDs (WH cs off xs) fun cs1=>sU (b3 cs1&&!b3 cs) none (Ih hp id (.box cs1) fun hp=>k .junk hp)) none) none)
  (fun _ _ _=>e) (fun _ _=>none)
  (fun _ _ _ _=>none) (fun _ _ _=>none) (fun _=>none) (fun _ _ _=>none) (fun _ _ _=>none) none ⟨⟩ (fun _ _ _ _=>⟨⟩) a
section eqs
variable {call:aw} {base kk:Nat} {hp:List Ob} {k:KV}
def UT (zs:List D):dZ call base (.alloc zs) kk [] hp k=Gc base kk zs hp k:=by
 simp only[Gc,lu,QX,vr,m9];rfl
def Φ (n:Nat)(d:D):dZ call base (.box n) kk [d] hp k=Υ base n kk d hp k:=by
 simp only[Υ,lu,QX,vr,m9,gX,m6];show(bif dq (aX hp (base+kk))then match YD n base kk [d]with
  |none=>none
  |some (v,ups,new)=>k v (grow (ar hp ups) new)else none)=_
 simp only[YD];have:aX hp (base+kk)=hp.getD (Nat.add base kk) .dead:=rfl;rw[this];cases dq (hp.getD (Nat.add base kk) .dead)
 ·rfl
 ·cases((bif Nat.beq n 1000003 then Nat.beq (bz d).length 3 else Nat.beq (bz d).length n&&!b3 (bz d))&&(bz d).all dK)<;>rfl
def WQ (n:Nat)(a d:D):dZ call base (.store n) kk [a,d] hp k=QL n a d hp (dZ call base (.store n) kk [a,d] hp k) k:=by
 cases a<;>try rfl
 rename_i id off;simp only[QL,vr,m9,gX,A5,GF,zu,In];have hn:bM (.store n) [.box id off,d] hp=id::(dids d++[]):=rfl;have hl:ja ((id::(dids d++[])).zip ((id::(dids d++[])).map (aX hp))) id=aX hp id:=by
  simp only[List.map_cons,List.zip_cons_cons,ja,show Nat.beq id id=true from Nat.beq_refl id,cond_true]
 simp only[dZ,rD,oG,hn,hl];have:aX hp id=hp.getD id .dead:=rfl;rw[this];cases hp.getD id .dead<;>try rfl
 rename_i cs;have h2:Nat.add off n=off+n:=rfl;simp only[mJ,h2];cases Nat.beq (bz d).length n<;>cases(bz d).all dK<;>cases Nat.ble (off+n) cs.length<;>first|rfl|(cases(b3 (splice cs off (bz d))&&!b3 cs)<;>rfl)
def vu (l:List α)(off n:Nat)(f:List α->R):QO l off n f=caseO (sub l off n) none f:=by
 unfold QO sub;rw[m6,zu,QT,ND,lχ];cases h:Nat.ble (off+n) l.length
 ·cases h1:Nat.ble off l.length
  ·rfl
  ·have:Nat.ble n (l.length - off)=false:=by
    rw[<-Bool.not_eq_true,Nat.ble_eq]at h ⊢
    simp_all;omega
   rw[this];rfl
 ·have:=Nat.le_of_ble_eq_true h;rw[Nat.ble_eq.mpr (by omega:off<=l.length),Nat.ble_eq.mpr (by omega:n<=l.length - off)];rfl
def ï (n:Nat)(agg:Bool)(x:D):dZ call base (.load n agg) kk [x] hp k=SO n agg x hp (kM (ik n agg [x] ((dids x).map (aX hp))) fun v=>k v hp) fun v=>k v hp:=by
 rw[cT rfl];cases x<;>try rfl
 ·rename_i id off;show kM (ik n agg [.box id off] [aX hp id]) (fun v=>k v hp)=_;simp only[SO,ik,m9,vu,nN];have:aX hp id=hp.getD id .dead:=rfl;rw[this];cases hp.getD id .dead<;>try rfl
  rename_i cs;simp only[mJ];cases sub cs off n with
  |none=>rfl
  |some ds=>
   simp only[caseO];cases eA agg ds<;>rfl
 ·rename_i x off;show kM (ik n agg [.ip x off] []) (fun v=>k v hp)=_;simp only[SO,ik,vu,nN,zA];cases sub (cells x) off n with
  |none=>rfl
  |some ds=>
   simp only[caseO];cases eA agg (ds.map .p)<;>rfl
def V_ {β:Type}(f:α->β)(l:List α)(off n:Nat):sub (l.map f) off n=(sub l off n).map (List.map f):=by
 unfold sub;rw[lζ];cases Nat.ble (off+n) l.length;all_goals simp_all
def ϱ (off n:Nat)(agg:Bool)(x:D):dZ call base (.fld off n agg) kk [x] hp k=Ë off n agg x fun v=>k v hp:=by
 rw[cT rfl];show kM (J9 off n agg [x]) (fun v=>k v hp)=_;cases x<;>try rfl
 ·rename_i x;cases x<;>try rfl
  rename_i cs;simp only[J9,Ë,vu,nN,zA,V_];cases sub cs off n with
  |none=>rfl
  |some ds=>
   simp only[Option.map_some,caseO];cases eA agg (ds.map .p)<;>rfl
 ·rename_i cs;simp only[J9,Ë,vu,nN];cases sub cs off n with
  |none=>rfl
  |some ds=>
   simp only[caseO];cases eA agg ds<;>rfl
def UZ (zs:List D)(ps:List (Nat×Nat))(vs:List D):dZ call base (.build zs ps) kk vs hp k=Gj zs ps vs fun v=>k v hp:=by
 rw[cT rfl];show kM (sF zs ps vs) (fun v=>k v hp)=_;simp only[sF,Gj,Ll,EW];cases rU zs ps vs<;>rfl
end eqs
def aaV (n:Nat)(agg:Bool)(x:D)(hp:List Ob)(k:D->R):R:=SO n agg x hp (kM (ik n agg [x] ((dids x).map (aX hp))) k) k
def Ip (call:aw)(base n kk:Nat)(a d:D)(hp:List Ob)(k:KV):R:=
 QL n a d hp (dZ call base (.store n) kk [a,d] hp fun v hp=>zq hp fun hp=>k v hp) k
def Í (call:aw)(base:Nat)(o:O)(kk:Nat)(vs:List D)(hp:List Ob)(k:KV):R:=
 dZ call base o kk vs hp fun v hp=>jF v fun v=>zq hp fun hp=>k v hp
def GN (call:aw)(base:Nat)(o:O)(kk:Nat)(vs:List D)(hp:List Ob)(k:KV):Í call base o kk vs hp k=dZ call base o kk vs hp k:=by
 simp only[Í,nE,sR]
def WN (call:aw)(base n kk:Nat)(a d:D)(hp:List Ob)(k:KV):Ip call base n kk a d hp k=dZ call base (.store n) kk [a,d] hp k:=by
 simp only[Ip,sR];exact(WQ n a d).symm
def Ik (lo hi:Bool)(x:D)(xs:List D)(k:D->R):R:=
 jg x none fun x=>q8 x none fun s=>caseO (dj lo hi false (L4 s) xs) none fun b=>TA (ZM s b.1) (Nat.sub b.2.1 b.1) fun r=>k (.p (.str r))
variable {kk:Nat}
def WG {call:aw}{base:Nat}{hp:List Ob}{k:KV}(lo hi:Bool)(x:D)(xs:List D):dZ call base (.slStr lo hi) kk (x::xs) hp k=Ik lo hi x xs fun v=>k v hp:=by
 rw[cT rfl];show kM (oF lo hi (x::xs)) (fun v=>k v hp)=_;cases x<;>try rfl
 rename_i x;cases x<;>try rfl
 rename_i s;simp only[oF,Ik,jg,q8,NC,ZN,mN];cases dj lo hi false s.length xs with
 |none=>rfl
 |some b=>rfl
def zj (es:LD)(n:Nat)(ys:LD)(e:R)(k:LD->R):R:=
 List.rec (motive:=fun _=>Nat->(LD->R)->R) (fun n k=>Nat.rec (motive:=fun _=>R) (k ys) (fun _ _=>e) n) (fun x _ ih n k=>Nat.rec (motive:=fun _=>R) (k ys) (fun m _=>ih m fun r=>k (x::r)) n) es n k
def AP (ys:LD)(e:R):∀(es:LD) (n:Nat) (k:LD->R),zj es n ys e k=bif Nat.ble n es.length then k (es.take n++ys)else e
 |[],0,k=>rfl
 |[],n+1,k=>rfl
 |x::r,0,k=>rfl
 |x::r,n+1,k=>by
  show zj r n ys e (fun r=>k (x::r))=_;rw[AP ys e r];rfl
def RP (o:Ob)(e:R)(k:LD->R):R:=
 Ob.rec (motive:=fun _=>R) (fun _=>e) (fun es=>k es) (fun _=>e) (fun _ _=>e) (fun _ _=>e) e e (fun _ _=>e) (fun _=>e) o
def yK (esz:Nat)(b:D)(e:R)(k:LD->R):R:=
 D.rec (motive_1:=fun _=>R) (motive_2:=fun _=>PUnit.{1})
  (fun x=>jB x e fun z es=>sU (Nat.beq z esz) (k es) e) (fun _ _=>e) (fun _ _=>e) (fun _ _=>e) (fun _ _ _=>e) (fun _ _=>e) (fun _ _ _ _=>e) (fun _ z es=>sU (Nat.beq z esz) (k es) e) (fun _=>e) (fun _ _ _=>e) (fun _ _ _=>e) e ⟨⟩ (fun _ _ _ _=>⟨⟩) b
def ae2 (esz:Nat)(b:D)(os:List (Nat×Ob))(e:R)(k:LD->R):yK esz b e k=e\/∃ys,elems esz os b=some ys/\yK esz b e k=k ys:=by
 cases b<;>try exact .inl rfl
 ·rename_i x;cases x<;>try exact .inl rfl
  all_goals
   simp only[yK,jB,m6,elems,qU,CU];grind
 ·simp only[yK,m6,elems,qU,CU];grind
def abJ (esz bytes base kk:Nat)(a b:D)(hp:List Ob)(e:R)(k:KV):R:=
 D.rec (motive_1:=fun _=>R) (motive_2:=fun _=>PUnit.{1})
  (fun _=>e) (fun _ _=>e) (fun _ _=>e) (fun _ _=>e) (fun _ _ _=>e) (fun _ _=>e)
  (fun id lo len z=>Nat.rec (motive:=fun _=>R) (sU (Nat.beq z esz) (RP (Ml hp id) e fun es=>yK esz b e fun ys=>zj es len ys e fun zs=>
   forceN (Nat.add len (L4 ys)) fun l=>sU (Nat.ble (Nat.mul (Nat.add (Nat.mul 2 l) 192) bytes) 281474976710656) (sU (Nat.ble (Nat.add (Nat.mul 2 l) 192) 9223372036854775807)
    (forceN (Nat.add base kk) fun i=>unb (Ml hp i) (Ih hp id .dead fun hp=>Ih hp i (.arr zs) fun hp=>k (.arr i 0 l esz) hp)) none) none) e) (fun _ _=>e) lo)
  (fun _ _ _=>e) (fun _=>e) (fun _ _ _=>e) (fun _ _ _=>e) e ⟨⟩ (fun _ _ _ _=>⟨⟩) a
def Ε {call:aw}{base:Nat}{hp:List Ob}{k:KV}(esz bytes:Nat)(a b:D):dZ call base (.app esz bytes) kk [a,b] hp k=abJ esz bytes base kk a b hp (dZ call base (.app esz bytes) kk [a,b] hp k) k:=by
 cases a<;>try rfl
 rename_i id lo len z;cases lo with
 |succ lo=>rfl
 |zero=>
  simp only[abJ,m6];cases hz:Nat.beq z esz
  ·rfl
  ·have ho:aX hp id=Ml hp id:=(m9 hp id).symm;cases hob:Ml hp id<;>try rfl
   rename_i es;simp only[RP];have hn:bM (.app esz bytes) [.arr id 0 len z,b] hp=id::(dids b++[]):=rfl;have hl:ja ((id::(dids b++[])).zip ((id::(dids b++[])).map (aX hp))) id= .arr es:=by
    simp only[List.map_cons,List.zip_cons_cons,ja,show Nat.beq id id=true from Nat.beq_refl id,cond_true,ho,hob]
   rcases ae2 esz b ((id::(dids b++[])).zip ((id::(dids b++[])).map (aX hp))) (dZ call base (.app esz bytes) kk [.arr id 0 len z,b] hp k) (fun ys=>zj es len ys (dZ call base (.app esz bytes) kk [.arr id 0 len z,b] hp k) fun zs=>
   forceN (Nat.add len (L4 ys)) fun l=>bif Nat.ble (Nat.mul (Nat.add (Nat.mul 2 l) 192) bytes) 281474976710656 then bif Nat.ble (Nat.add (Nat.mul 2 l) 192) 9223372036854775807 then
    (forceN (Nat.add base kk) fun i=>unb (Ml hp i) (Ih hp id .dead fun hp=>Ih hp i (.arr zs) fun hp=>k (.arr i 0 l esz) hp))else none else none)with hy|⟨ys,hy1,hy2⟩
   ·exact hy.symm
   ·rw[hy2,AP];cases hle:Nat.ble len es.length
    ·rfl
    ·have hle':=Nat.le_of_ble_eq_true hle;have hlen:(es.take len).length=len:=by grind
     simp only[lu,vr,QX,m9,mN];simp only[dZ,rD,sE,hn,pp,hl,hz,cond_true,List.drop_zero,hy1,hlen,cond_false];have e1:aX hp (base+kk)=hp.getD (Nat.add base kk) .dead:=rfl;rw[e1];have e2:(2*(len+ys.length)+192)*bytes=Nat.mul (Nat.add (Nat.mul 2 (Nat.add len ys.length)) 192) bytes:=rfl;have e3:2*(len+ys.length)+192=Nat.add (Nat.mul 2 (Nat.add len ys.length)) 192:=rfl;cases dq (hp.getD (Nat.add base kk) .dead)<;>cases Nat.ble (Nat.mul (Nat.add (Nat.mul 2 (Nat.add len ys.length)) 192) bytes) 281474976710656<;>cases Nat.ble (Nat.add (Nat.mul 2 (Nat.add len ys.length)) 192) 9223372036854775807<;>rfl
def Α (call:aw)(base esz bytes kk:Nat)(a b:D)(hp:List Ob)(k:KV):R:=
 abJ esz bytes base kk a b hp (Í call base (.app esz bytes) kk [a,b] hp k) k
def Β (call:aw)(base esz bytes kk:Nat)(a b:D)(hp:List Ob)(k:KV):Α call base esz bytes kk a b hp k=dZ call base (.app esz bytes) kk [a,b] hp k:=by
 unfold Α;rw[GN];exact(Ε esz bytes a b).symm
def Y9 (esz:Nat)(d:D)(e:R)(k:D->R):R:=jg d e fun x=>sU (Nat.beq (L4 (cells x)) esz) (k (.sl .exact esz [x])) none
def Za {call:aw}{base:Nat}{hp:List Ob}{k:KV}(esz:Nat)(z:Da)(d:D):dZ call base (.bsl esz z 1 [0]) kk [d] hp k=Y9 esz d (dZ call base (.bsl esz z 1 [0]) kk [d] hp k) fun v=>k v hp:=by
 cases d<;>try rfl
 rename_i x;simp only[Y9,jg,mN];have:dZ call base (.bsl esz z 1 [0]) kk [.p x] hp k=match YE esz z 1 [0] [.p x] [] []with
  |none=>none
  |some (v,ups,new)=>k v (grow (ar hp ups) new):=rfl
 rw[this];simp only[YE,pur.purL,pur,List.all_cons,Bool.and_true];cases Nat.beq (cells x).length esz
 ·rfl
 ·rfl
def Y7 (call:aw)(base esz:Nat)(z:Da)(kk:Nat)(d:D)(hp:List Ob)(k:KV):R:=Y9 esz d (Í call base (.bsl esz z 1 [0]) kk [d] hp k) fun v=>k v hp
def Y8 (call:aw)(base esz:Nat)(z:Da)(kk:Nat)(d:D)(hp:List Ob)(k:KV):Y7 call base esz z kk d hp k=dZ call base (.bsl esz z 1 [0]) kk [d] hp k:=by
 unfold Y7;rw[GN];exact(Za esz z d).symm
def qB (d:D)(k:D->R):R:=
 D.rec (motive_1:=fun _=>R) (motive_2:=fun _=>PUnit.{1})
  (fun x=>Da.rec (motive_1:=fun _=>R) (motive_2:=fun _=>PUnit.{1})
   (fun b=>Bool.rec (motive:=fun _=>R) (k (.p (.bool false))) (k (.p (.bool true))) b) (fun i n=>GI n fun n=>k (.p (.int i n))) (fun s=>forceNs s fun s=>k (.p (.str s))) (fun cs _=>uB cs fun cs=>k (.p (.agg cs))) (fun z es _=>uB es fun es=>k (.p (.slice z es))) (k d) (fun _ _=>k d) (fun _ _ _ _=>k d) (k d) (fun _ _ _=>k d) (k d) (fun _ _ _=>k d) (k d) (fun _ _ _=>k d) (fun _ _=>k d) ⟨⟩ (fun _ _ _ _=>⟨⟩) x)
  (fun cs _=>k (.agg cs)) (fun ds _=>forceDs ds fun ds=>k (.tup ds)) (fun _ _=>jF d k) (fun _ _ _=>jF d k) (fun _ _=>k d)
  (fun _ _ _ _=>jF d k) (fun _ _ _=>k d) (fun _=>jF d k) (fun _ _ _=>k d) (fun _ _ _=>k d) (k d) ⟨⟩ (fun _ _ _ _=>⟨⟩) d
def Vy (d:D)(k:D->R):qB d k=k d:=by
 cases d<;>(try rfl)<;>(try (simp only[qB,nE];done))
 ·rename_i x;cases x<;>try rfl
  ·rename_i b;cases b<;>rfl
  ·simp only[qB,EG]
  ·simp only[qB,lW]
  ·simp only[qB,oN]
  ·simp only[qB,oN]
 ·simp only[qB,gX]
end
section
def qM (vs:List D)(e:R)(k:List D->R):R:=
 List.rec (motive:=fun _=>(List D->R)->R) (fun k=>k [])
  (fun d _ ih k=>D.rec (motive_1:=fun _=>R) (motive_2:=fun _=>PUnit.{1})
   (fun x=>ih fun xs=>k (.p x::xs)) (fun _ _=>e) (fun _ _=>e) (fun _ _=>e) (fun _ _ _=>e) (fun _ _=>e) (fun _ _ _ _=>e) (fun _ _ _=>e) (fun _=>e) (fun _ _ _=>e) (fun _ _ _=>e) e ⟨⟩ (fun _ _ _ _=>⟨⟩) d) vs k
def Tb (r:D)(e:R)(k:D->R):R:=
 D.rec (motive_1:=fun _=>R) (motive_2:=fun _=>PUnit.{1})
  (fun x=>k (.p x)) (fun _ _=>e) (fun ds _=>qM ds e fun ds=>k (.tup ds)) (fun _ _=>e) (fun _ _ _=>e) (fun _ _=>e) (fun _ _ _ _=>e) (fun _ _ _=>e) (fun _=>e) (fun _ _ _=>e) (fun _ _ _=>e) e ⟨⟩ (fun _ _ _ _=>⟨⟩) r
def NQ:D->Bool
 | .p _=>true
 |_=>false
def kC (e:R):∀(vs:List D) (k:List D->R),qM vs e k=bif vs.all NQ then k vs else e
 |[],k=>rfl
 |d::r,k=>by
  cases d<;>try rfl
  rename_i x;show qM r e (fun xs=>k (.p x::xs))=_;rw[kC e r];rfl
def Ca:D->Bool
 | .p _=>true
 | .tup ds=>ds.all NQ
 |_=>false
def Cb (r:D)(e:R)(k:D->R):Tb r e k=bif Ca r then k r else e:=by
 cases r<;>try rfl
 exact kC _ _ _
def q9:∀{vs:List D},vs.all NQ=true->dids.didsL vs=[]
 |[],_=>rfl
 |d::r,h=>by
  simp only[List.all_cons,lγ]at h;cases d<;>simp only[NQ,Bool.false_eq_true,false_and]at h;simp only[dids.didsL,dids,q9 h.2,lν]
def wU (σ:Nat->Option Nat):∀{vs:List D},vs.all NQ=true->mapD.mapDL σ vs=vs
 |[],_=>rfl
 |d::r,h=>by
  simp only[List.all_cons,lγ]at h;cases d<;>simp only[NQ,Bool.false_eq_true,false_and]at h;simp only[mapD.mapDL,mapD,wU σ h.2]
def wV (σ:Nat->Option Nat){d:D}(h:Ca d=true):mapD σ d=d:=by
 cases d<;>simp only[Ca,Bool.false_eq_true]at h
 ·rfl
 ·simp only[mapD,wU σ h]
def wW:∀{vs:List D},vs.all NQ=true->vs.map norm=vs
 |[],_=>rfl
 |d::r,h=>by
  simp only[List.all_cons,lγ]at h;cases d<;>simp only[NQ,Bool.false_eq_true,false_and]at h;simp only[List.map_cons,norm,wW h.2]
def Zn (call:aw)(f:Nat)(args:List D)(e:R)(k:D->R):R:=
 caseO (call f args []) none fun ro=>Prod.rec (motive:=fun _=>R) (fun r out=>List.rec (motive:=fun _=>R) (Tb r e k) (fun _ _ _=>e) out) ro
def Er (call:aw)(f:Nat)(raw:Bool)(vs:List D)(hp:List Ob)(e:R)(k:D->R):R:=
 qM vs e fun vs=>Zn call f vs e k
def xM {call:aw}{f:Nat}{vs:List D}{len:Nat}(h:vs.all NQ=true):fq call f vs [] [] len=match call f vs []with
  |none=>none
  |some (r,out)=>some (mapD (back 0 len [] out.length) r,[],out.map (ck (back 0 len [] out.length))):=by
 unfold fq;rw[wU _ h];rfl
abbrev KF:=D->List Ob->eC->R
section eqs
variable {call:aw} {base kk:Nat} {hp:List Ob} {k:KV}
def Ev (hp:List Ob)(n:Nat)(acc:LN):close hp n [] acc=acc:=by cases n<;>rfl
def U6 {f:Nat}{raw:Bool}{vs:List D}(h:vs.all NQ=true):dZ call base (.call f raw) kk vs hp k=match call f vs []with
  |none=>none
  |some (r,out)=>k (mapD (back 0 hp.length [] out.length) r) (grow hp (out.map (ck (back 0 hp.length [] out.length)))):=by
 have hn:bM (.call f raw) vs hp=[]:=by simp only[bM,q9 h,Ev]
 have ha:(bif raw then vs else vs.map norm)=vs:=by cases raw<;>simp[wW h]
 simp only[dZ,hn,List.map_nil,rD,ha,xM h];cases call f vs []<;>rfl
def Zo (f:Nat)(raw:Bool)(vs:List D):dZ call base (.call f raw) kk vs hp k=Er call f raw vs hp (dZ call base (.call f raw) kk vs hp k) fun v=>k v hp:=by
 unfold Er;rw[kC];cases h:vs.all NQ
 ·rfl
 ·rw[cond_true,U6 h];unfold Zn;cases hc:call f vs []with
  |none=>rfl
  |some p=>
   obtain⟨r,out⟩:=p;cases out with
   |cons o out=>rfl
   |nil=>
    simp only[caseO,Cb];cases hr:Ca r
    ·rfl
    ·rw[wV _ hr];rfl
end eqs
def Eu (call:aw)(f:Nat)(raw:Bool)(vs:List D)(hp:List Ob)(k:KF):R:=
 forceNs (fW hp bi (eL vs []) []) fun ids=>
  forceDs (gC (kQ ids) (Bool.rec (motive:=fun _=>List D) (vs.map norm) vs raw)) fun args=>forceHb (pd ids hp) fun hp'=>
   caseO (call f args hp') none fun ro=>Prod.rec (motive:=fun _=>R) (fun r out=>sU (Nat.ble ids.length out.length)
    (jF (jb (back ids.length hp.length ids out.length) r) fun v=>forceHb (pC (back ids.length hp.length ids out.length) out) fun out'=>
     forceHb (grow (ar hp (ids.zip out')) (out'.drop ids.length)) fun hp2=>k v hp2 ⟨ids,mU ids hp (ids.zip out'),!(out'.drop ids.length).isEmpty,hp.length⟩) none) ro
variable {kk:Nat}
def Ky {call:aw}{base:Nat}{hp:List Ob}{k:KF}(f:Nat)(raw:Bool)(vs:List D):Eu call f raw vs hp k=bif !(ed (.call f raw))||dq (aX hp (base+kk))then
  match rD call base (.call f raw) kk vs (bM (.call f raw) vs hp) ((bM (.call f raw) vs hp).map (aX hp)) hp.length with
  |none=>none
  |some (v,ups,new)=>k v (grow (ar hp ups) new) ⟨bif ed (.call f raw)then(base+kk)::bM (.call f raw) vs hp else bM (.call f raw) vs hp,mU (bM (.call f raw) vs hp) hp ups,!new.isEmpty,hp.length⟩
 else none:=by
 have hn:bM (.call f raw) vs hp=close hp bi (dids.didsL vs) []:=rfl;simp only[Eu,lW,gX,lV,nE,eu,fj,lν,jH,lk,mf,gK,nH,m6,ed,rD,fq,hn];have e:(List.map (ck (idx (close hp bi (dids.didsL vs) []))) (List.map (aX hp) (close hp bi (dids.didsL vs) [])))=bZ (close hp bi (dids.didsL vs) []) hp:=by
  simp;rfl
 have e2:(bif raw then vs else List.map norm vs)=Bool.rec (motive:=fun _=>List D) (vs.map norm) vs raw:=by cases raw<;>rfl
 rw[e,e2];cases call f (mapD.mapDL (idx (close hp bi (dids.didsL vs) [])) (Bool.rec (motive:=fun _=>List D) (vs.map norm) vs raw)) (bZ (close hp bi (dids.didsL vs) []) hp)with
 |none=>rfl
 |some p=>
  simp only[caseO];grind
def RO (call:aw)(f:Nat)(raw:Bool)(vs:List D)(hp:List Ob)(k:KV):R:=
 Er call f raw vs hp (Eu call f raw vs hp fun v hp _=>k v hp) fun v=>k v hp
def Zj {call:aw}{base:Nat}{hp:List Ob}{k:KV}(f:Nat)(raw:Bool)(vs:List D):dZ call base (.call f raw) kk vs hp k=RO call f raw vs hp k:=by
 rw[Zo];unfold RO;rw[Ky (base:=base) (kk:=kk)];rfl
def iaG (esz:Nat)(x i:D)(k:D->R):R:=iaK esz x i (kM (RB esz [x,i]) k) k
def faG (off:Nat)(x:D)(k:D->R):R:=faK off x (kM (aFa off [x]) k) k
def Ā (x:D)(k:D->R):R:=ā x (kM (sG [x]) k) k
def ad6 (kd:Nat)(x:D)(hp:List Ob)(k:D->R):R:=acG kd x (kM (UR kd [x] (bM (.len kd) [x] hp) ((bM (.len kd) [x] hp).map (aX hp))) k) k
def ì (x:D)(hp:List Ob)(k:D->R):R:=Hl x hp (kM (ik 1 false [x] ((dids x).map (aX hp))) k) k
def aaQ (o:O)(vs:List D)(hp:List Ob):eC:=⟨bM o vs hp,[],false,hp.length⟩
def adW (hp:List Ob):eC:=⟨[],[],false,hp.length⟩
def VI (call:aw)(base:Nat)(o:O)(kk:Nat)(vs:List D)(hp:List Ob)(k:KV):R:=
 match o,vs with
 | .mv,[a]=>k a hp
 | .pick,[c,a,b]=>ď c a b fun v=>k v hp
 | .bin op,[x,y]=>Θ op x y fun v=>k v hp
 | .un .not,[x]=>acR x fun v=>k v hp
 | .ia esz,[x,i]=>iaG esz x i fun v=>k v hp
 | .ix,[x,i]=>ixK x i fun v=>k v hp
 | .fa off,[x]=>faG off x fun v=>k v hp
 | .nilck,[x]=>Ā x fun v=>k v hp
 | .ext i,[x]=>Ϭ i x fun v=>k v hp
 | .len kd,[x]=>ad6 kd x hp fun v=>k v hp
 | .load 1 false,[x]=>ì x hp fun v=>k v hp
 | .call f raw,vs=>RO call f raw vs hp k
 | .alloc zs,[]=>Gc base kk zs hp k
 | .box n,[d]=>Υ base n kk d hp k
 | .store n,[a,d]=>Ip call base n kk a d hp k
 | .slStr lo hi,x::xs=>Ik lo hi x xs fun v=>k v hp
 | .load n agg,[x]=>aaV n agg x hp fun v=>k v hp
 | .fld off n agg,[x]=>Ë off n agg x fun v=>k v hp
 | .build zs ps,vs=>Gj zs ps vs fun v=>k v hp
 | .app esz bytes,[a,b]=>Α call base esz bytes kk a b hp k
 | .bsl esz z 1 [0],[d]=>Y7 call base esz z kk d hp k
 |o,vs=>match nS o with
  |true=>dZ call base o kk vs hp k
  |false=>Í call base o kk vs hp k
def Þ (call:aw)(base:Nat)(o:O)(kk:Nat)(vs:List D)(hp:List Ob)(k:KV):VI call base o kk vs hp k=dZ call base o kk vs hp k:=by
 unfold VI;split
 ·rfl
 ·exact(Ē _ _ _).symm
 ·exact(Μ _ _ _).symm
 ·exact(x_ _).symm
 ·exact(acx _ _ _).symm
 ·exact(acC _ _).symm
 ·exact(acm _ _).symm
 ·exact(VZ _).symm
 ·exact(ϭ _ _).symm
 ·exact(m_ _ _).symm
 ·exact(VU _).symm
 ·exact(Zj _ _ _).symm
 ·exact(UT _).symm
 ·exact(Φ _ _).symm
 ·exact WN _ _ _ _ _ _ _ _
 ·exact(WG _ _ _ _).symm
 ·exact(ï _ _ _).symm
 ·exact(ϱ _ _ _ _).symm
 ·exact(UZ _ _ _).symm
 ·exact Β _ _ _ _ _ _ _ _ _
 ·exact Y8 _ _ _ _ _ _ _ _
 ·split
  ·rfl
  ·exact GN _ _ _ _ _ _ _
def GM (call:aw)(base:Nat)(o:O)(kk:Nat)(vs:List D)(hp:List Ob)(k:KF):R:=
 bif !(ed o)||dq (aX hp (base+kk))then
  match rD call base o kk vs (bM o vs hp) ((bM o vs hp).map (aX hp)) hp.length with
  |none=>none
  |some (v,ups,new)=>k v (grow (ar hp ups) new) ⟨bif ed o then(base+kk)::bM o vs hp else bM o vs hp,mU (bM o vs hp) hp ups,!new.isEmpty,hp.length⟩
 else none
def Kw (call:aw)(f:Nat)(raw:Bool)(vs:List D)(hp:List Ob)(k:KF):R:=
 Er call f raw vs hp (Eu call f raw vs hp k) fun v=>k v hp (adW hp)
def Zi {call:aw}{base:Nat}{hp:List Ob}{k:KF}(f:Nat)(raw:Bool)(vs:List D):GM call base (.call f raw) kk vs hp k=Kw call f raw vs hp k:=by
 unfold Kw Er;rw[kC,Ky (base:=base) (kk:=kk)];cases h:vs.all NQ
 ·rfl
 ·have hn:bM (.call f raw) vs hp=[]:=by simp only[bM,q9 h,Ev]
  have ha:(bif raw then vs else vs.map norm)=vs:=by cases raw<;>simp[wW h]
  simp only[GM,hn,List.map_nil,rD,ha,xM h];unfold Zn;cases hc:call f vs []with
  |none=>rfl
  |some p=>
   obtain⟨r,out⟩:=p;cases out with
   |cons o out=>rfl
   |nil=>
    simp only[caseO,Cb];cases hr:Ca r
    ·rfl
    ·rw[wV _ hr];rfl
def Bq (call:aw)(base:Nat)(o:O)(kk:Nat)(vs:List D)(hp:List Ob)(k:KF):R:=
 match o with
 | .call f raw=>Kw call f raw vs hp k
 |o=>match nS o with
  |true=>VI call base o kk vs hp fun v hp'=>k v hp' (aaQ o vs hp)
  |false=>GM call base o kk vs hp k
def e_ (call:aw)(base:Nat)(o:O)(kk:Nat)(vs:List D)(hp:List Ob)(k:KF):Bq call base o kk vs hp k=GM call base o kk vs hp k:=by
 unfold Bq;split
 ·exact(Zi _ _ _).symm
 ·split
  ·rename_i hs;rw[Þ,cT hs];have hq:=yc (call:=call) (base:=base) (kk:=kk) (vs:=vs) (ids:=bM o vs hp) (obs:=(bM o vs hp).map (aX hp)) (len:=hp.length) hs;simp only[GM,yb hs,cond_false];cases ha:rD call base o kk vs (bM o vs hp) ((bM o vs hp).map (aX hp)) hp.length with
   |none=>rfl
   |some e=>
    obtain⟨v,ups,new⟩:=e;have:=hq _ ha;obtain⟨rfl,rfl⟩:=this;rfl
  ·rfl
def GT (d:D)(want:Bool)(t e:R):R:=
 D.rec (motive_1:=fun _=>R) (motive_2:=fun _=>PUnit.{1})
  (fun x=>uk x none (Bool.rec (motive:=fun _=>R) e t want) (Bool.rec (motive:=fun _=>R) t e want))
  (fun _ _=>none) (fun ds _=>List.rec (motive:=fun _=>R) e (fun _ _ _=>none) ds) (fun _ _=>none) (fun _ _ _=>none) (fun _ _=>none) (fun _ _ _ _=>none) (fun _ _ _=>none) (fun _=>none) (fun _ _ _=>none) (fun _ _ _=>none) none ⟨⟩ (fun _ _ _ _=>⟨⟩) d
def Ò (d:D)(want:Bool):Option Bool:=
 match d with
 | .p (.bool b)=>some (b==want)
 | .tup []=>some false
 |_=>none
def EI (d:D)(want:Bool)(t e:R):GT d want t e=match Ò d want with
  |none=>none
  |some true=>t
  |some false=>e:=by
 cases d<;>try rfl
 ·rename_i x;cases x<;>try rfl
  rename_i b;cases b<;>cases want<;>rfl
 ·rename_i ds;cases ds<;>rfl
def uG {x:eP}(tm:Tm)(h:x.gd=none):dE x tm=some true:=by simp[dE,h]
def uH {x:eP}(tm:Tm){g:Nat}{w:Bool}(h:x.gd=some (g,w)):dE x tm=Ò (get tm g) w:=by
 unfold dE;rw[h];rfl
def gG (d:D)(want:Bool)(run:KV->R)(hp:List Ob)(k:KV):R:=GT d want (run k) (k (.tup []) hp)
def gF (d:D)(want:Bool)(run:KF->R)(hp:List Ob)(k:KF):R:=GT d want (run k) (k (.tup []) hp ⟨[],[],false,0⟩)
def gdO (gd:Option (Nat×Bool))(tm:Tm)(run:KV->R)(hp:List Ob)(k:KV):R:=
 match gd with
 |none=>run k
 |some (g,w)=>gG (qD tm g) w run hp k
def gdF (gd:Option (Nat×Bool))(tm:Tm)(run:KF->R)(hp:List Ob)(k:KF):R:=
 match gd with
 |none=>run k
 |some (g,w)=>gF (qD tm g) w run hp k
def uV (tm:Tm)(as:List A):List D:=List.rec (motive:=fun _=>List D) [] (fun a _ ih=>ϩ tm a::ih) as
def Hq (tm:Tm):∀as,uV tm as=as.map (ev tm)
 |[]=>rfl
 |a::r=>by
  show ϩ tm a::uV tm r=_;rw[Ã,Hq tm r];rfl
def GY (call:aw)(base:Nat)(ops:List eP):Tm->List Ob->K->R:=
 List.rec (motive:=fun _=>Tm->List Ob->K->R) (fun tm hp k=>k tm hp)
  (fun x _ ih tm hp k=>gdO x.gd tm (fun k=>VI call base x.op x.k (uV tm x.as) hp k) hp fun v hp=>ih (put x.dst v tm) hp k) ops
def SF (call:aw)(base:Nat):∀(ops:List eP) (tm:Tm) (hp:List Ob) (k:K),GY call base ops tm hp k=match mK call base ops ⟨tm,hp⟩with
  |none=>none
  |some st=>k st.tm st.hp
 |[],tm,hp,k=>rfl
 |x::r,tm,hp,k=>by
  have step:∀v hp',GY call base r (put x.dst v tm) hp' k=match mK call base r ⟨put x.dst v tm,hp'⟩with
   |none=>none
   |some st=>k st.tm st.hp:=fun v hp'=>SF call base r _ _ _
  have run:(VI call base x.op x.k (uV tm x.as) hp fun v hp=>GY call base r (put x.dst v tm) hp k)=match (match rG call base x ⟨tm,hp⟩with
    |none=>none
    |some (st',_)=>mK call base r st')with
   |none=>none
   |some st=>k st.tm st.hp:=by
   rw[Þ,Hq];simp only[dZ,rG,aao,ÿ];grind
  show gdO x.gd tm (fun k=>VI call base x.op x.k (uV tm x.as) hp k) hp (fun v hp=>GY call base r (put x.dst v tm) hp k)=_;simp only[mK,gdO];cases hg:x.gd with
  |none=>rw[uG tm hg];exact run
  |some p=>
   rw[uH tm hg];simp only[gG,EI,gR];grind
def uM (call:aw)(base:Nat)(ops:List eP):Tm->List Ob->List eC->(Tm->List Ob->List eC->R)->R:=
 List.rec (motive:=fun _=>Tm->List Ob->List eC->(Tm->List Ob->List eC->R)->R) (fun tm hp fs k=>k tm hp fs.reverse)
  (fun x _ ih tm hp fs k=>gdF x.gd tm (fun k=>Bq call base x.op x.k (uV tm x.as) hp k) hp fun v hp f=>ih (put x.dst v tm) hp (f::fs) k) ops
def Ly (call:aw)(base:Nat):∀(ops:List eP) (tm:Tm) (hp:List Ob) (fs:List eC) (k:Tm->List Ob->List eC->R),uM call base ops tm hp fs k=match eN call base ops ⟨tm,hp⟩ fs with
  |none=>none
  |some (st,fs)=>k st.tm st.hp fs
 |[],tm,hp,fs,k=>rfl
 |x::r,tm,hp,fs,k=>by
  have step:∀v hp' f,uM call base r (put x.dst v tm) hp' (f::fs) k=match eN call base r ⟨put x.dst v tm,hp'⟩ (f::fs)with
   |none=>none
   |some (st,fs)=>k st.tm st.hp fs:=fun v hp' f=>Ly call base r _ _ _ _
  have run:(Bq call base x.op x.k (uV tm x.as) hp fun v hp f=>uM call base r (put x.dst v tm) hp (f::fs) k)=match (match rG call base x ⟨tm,hp⟩with
    |none=>none
    |some (st',f)=>eN call base r st' (f::fs))with
   |none=>none
   |some (st,fs)=>k st.tm st.hp fs:=by
   rw[e_,Hq];simp only[GM,rG,aao,ÿ];grind
  show gdF x.gd tm (fun k=>Bq call base x.op x.k (uV tm x.as) hp k) hp (fun v hp f=>uM call base r (put x.dst v tm) hp (f::fs) k)=_;simp only[eN,gdF];cases hg:x.gd with
  |none=>rw[uG tm hg];exact run
  |some p=>
   rw[uH tm hg];simp only[gF,EI,gR];grind
end
abbrev Sem:=aw->Nat->Nat->Tm->List Ob->K->(Nat->K)->K->R
noncomputable section
def RR (d:D)(t e:R):R:=jg d none fun x=>uk x none t e
def lY (out:LN)(tm:Tm):Tm:=List.rec (motive:=fun _=>Tm) .nil (fun s _ ih=> .cons s (qD tm s) ih) out
def Br (tm:Tm):∀out,lY out tm=fw out id tm
 |[]=>rfl
 |s::r=>by
  show Tm.cons s (qD tm s) (lY r tm)=_;rw[gR,Br tm r];rfl
def uF (nal:Nat)(hp:List Ob):List Ob:=Nat.rec (motive:=fun _=>List Ob) hp (fun n _=>grow hp (List.replicate (n+1) .unborn)) nal
def Lq (nal:Nat)(hp:List Ob):uF nal hp=grow hp (List.replicate nal .unborn):=by cases nal<;>rfl
def GJ (d:D)(e:R)(k:D->R):R:=
 D.rec (motive_1:=fun _=>R) (motive_2:=fun _=>PUnit.{1})
  (fun x=>rc x fun x=>k (.p x)) (fun _ _=>e) (fun _ _=>e) (fun _ _=>e) (fun _ _ _=>e) (fun x off=>k (.ip x off))
  (fun _ _ _ _=>e) (fun g z es=>k (.sl g z es)) (fun _=>e) (fun _ _ _=>e) (fun _ _ _=>e) (k .junk) ⟨⟩ (fun _ _ _ _=>⟨⟩) d
def m5:D->Bool
 | .p _=>true
 | .ip _ _=>true
 | .sl _ _ _=>true
 | .junk=>true
 |_=>false
def Vx (d:D)(e:R)(k:D->R):GJ d e k=bif m5 d then k d else e:=by
 cases d<;>try rfl
 simp only[GJ,sQ,m5,cond_true]
def HU (live:LN)(tm:Tm)(e:R)(k:Tm->R):R:=
 List.rec (motive:=fun _=>(Tm->R)->R) (fun k=>k .nil) (fun s _ ih k=>GJ (qD tm s) e fun d=>ih fun r=>k (.cons s d r)) live k
def Fb (tm:Tm)(e:R):∀(live:LN) (k:Tm->R),HU live tm e k=bif live.all (fun s=>m5 (get tm s))then k (fw live id tm)else e
 |[],k=>rfl
 |s::r,k=>by
  show GJ (qD tm s) e (fun d=>HU r tm e fun r=>k (.cons s d r))=_;rw[Vx,Fb tm e r,gR];simp only[fw,id];grind
def ghK (m:Nat)(g:Gh)(tm:Tm)(hp:List Ob)(k:K):R:=caseO (pO m g ⟨tm,hp⟩) none fun st=>forceTm st.tm fun tm=>forceHb st.hp fun hp=>k tm hp
def acr (m:Nat)(g:Gh)(tm:Tm)(hp:List Ob)(k:K):ghK m g tm hp k=caseO (pO m g ⟨tm,hp⟩) none fun st=>k st.tm st.hp:=by
 unfold ghK;congr 1;funext st;rw[sS,lV]
def Hg (live:LN)(tm:Tm)(ws:LN):LN:=List.rec (motive:=fun _=>LN) ws (fun s _ ih=>Ez (qD tm s) ih) live
def BD (tm:Tm)(ws:LN):∀live,Hg live tm ws=dids.didsL (live.map (get tm))++ws
 |[]=>rfl
 |s::r=>by
  show Ez (qD tm s) (Hg r tm ws)=_;rw[uq,BD tm ws r,gR];simp only[List.map_cons,dids.didsL,lε]
def GZ (f:D->D)(live:LN)(tm:Tm):Tm:=List.rec (motive:=fun _=>Tm) .nil (fun s _ ih=> .cons s (f (qD tm s)) ih) live
def Bu (f:D->D)(tm:Tm):∀live,GZ f live tm=fw live f tm
 |[]=>rfl
 |s::r=>by
  show Tm.cons s (f (qD tm s)) (GZ f r tm)=_;rw[gR,Bu f tm r];rfl
def EK (m:Nat)(live:LN)(tm:Tm)(hp:List Ob)(k:K):R:=
 forceNs (fW hp bi (Hg live tm (jR m hp)) (List.range m)) fun ids=>
  forceTm (GZ (jb (kQ ids)) live tm) fun tm=>forceHb (pd ids hp) fun hp=>k tm hp
def Bt (m:Nat)(live:LN)(tm:Tm)(hp:List Ob)(k:K):EK m live tm hp k=caseO (pO m (.keep live) ⟨tm,hp⟩) none fun st=>k st.tm st.hp:=by
 simp only[EK,lW,sS,lV,eu,BD,jK,Bu,mf,lk,pO,caseO];have:∀ids,jb (idx ids)=mapD (idx ids):=fun ids=>funext fun d=>gK _ d
 simp_all
def á (m:Nat)(live:LN)(tm:Tm)(hp:List Ob)(k:K):R:=
 List.rec (motive:=fun _=>R) (Nat.rec (motive:=fun _=>R) (HU live tm (EK m live tm hp k) fun tm=>k tm []) (fun _ _=>EK m live tm hp k) m) (fun _ _ _=>EK m live tm hp k) hp
def L7 (σ:Nat->Option Nat){d:D}(h:m5 d=true):mapD σ d=d:=by
 cases d<;>simp_all [m5,mapD]
def KW {d:D}(h:m5 d=true):dids d=[]:=by
 cases d<;>simp_all [m5,dids]
def ur:∀{ds:List D},ds.all m5=true->dids.didsL ds=[]
 |[],_=>rfl
 |d::r,h=>by
  simp only[List.all_cons,lγ]at h;simp only[dids.didsL,KW h.1,ur h.2,lν]
def rV (σ:Nat->Option Nat)(tm:Tm):∀{live:LN},live.all (fun s=>m5 (get tm s))=true->fw live (mapD σ) tm=fw live id tm
 |[],_=>rfl
 |s::r,h=>by
  simp only[List.all_cons,lγ]at h;simp only[fw,L7 σ h.1,rV σ tm h.2,id]
def â (m:Nat)(live:LN)(tm:Tm)(hp:List Ob)(k:K):á m live tm hp k=caseO (pO m (.keep live) ⟨tm,hp⟩) none fun st=>k st.tm st.hp:=by
 cases hp with
 |cons o r=>exact Bt _ _ _ _ _
 |nil=>
  cases m with
  |succ m=>exact Bt _ _ _ _ _
  |zero=>
   show HU live tm (EK 0 live tm [] k) (fun tm=>k tm [])=_;rw[Fb,Bt];cases h:live.all (fun s=>m5 (get tm s))
   ·rfl
   ·have hd:dids.didsL (live.map (get tm))=[]:=ur (by simp_all);simp only[pO,hd,caseO];rw[rV _ tm h];rfl
def EQ (m:Nat)(live:LN)(body:Tm->List Ob->K->R)(aH:Nat)(tm:Tm)(hp:List Ob):R:=
 Nat.rec (motive:=fun _=>Tm->List Ob->R) (fun _ _=>none) (fun _ ih tm hp=>á m live tm hp fun tm hp=>body tm hp ih) aH tm hp
def aa2:Sem:=fun _ _ _ tm hp kn _ _=>kn tm hp
def aep:Sem:=fun _ _ _ tm hp _ _ kr=>kr tm hp
def aaO (id:Nat):Sem:=fun _ _ _ tm hp _ ke _=>ke id tm hp
def afF (a b:Sem):Sem:=fun c n m tm hp kn ke kr=>a c n m tm hp (fun tm hp=>b c n m tm hp kn ke kr) ke kr
def adJ (x:A)(t e:Sem):Sem:=fun c n m tm hp kn ke kr=>RR (ϩ tm x) (t c n m tm hp kn ke kr) (e c n m tm hp kn ke kr)
def abT (id:Nat)(b:Sem):Sem:=fun c n m tm hp kn ke kr=>b c n m tm hp kn (fun i tm hp=>sU (Nat.beq i id) (kn tm hp) (ke i tm hp)) kr
def ad9 (live:LN)(b:Sem):Sem:=fun c n m tm hp _ ke kr=>EQ m live (fun tm hp k=>b c n m tm hp k ke kr) n tm hp
def ghS (g:Gh)(b:Sem):Sem:=fun c n m tm hp kn ke kr=>ghK m g tm hp fun tm hp=>b c n m tm hp kn ke kr
def afC (nal:Nat)(f:aw->Nat->Tm->List Ob->K->R):Sem:=fun c _ _ tm hp kn _ _=>f c hp.length tm (uF nal hp) kn
def afB (nal:Nat)(ps:List (Nat×Nat))(f:aw->Nat->Tm->List Ob->(Tm->List Ob->List eC->R)->R):Sem:=fun c _ _ tm hp kn _ _=>f c hp.length tm (uF nal hp) fun tm hp fs=>sU (fV fs ps) (kn tm hp) none
def aen (nal:Nat)(ops:List eP)(prs:Option (List (Nat×Nat)))(out:LN):Sem:=
 match prs with
 |none=>afC nal fun call base tm hp k=>GY call base ops tm hp fun tm hp=>k (lY out tm) hp
 |some ps=>afB nal ps fun call base tm hp k=>uM call base ops tm hp [] fun tm hp fs=>k (lY out tm) hp fs
def ZL (c:Co):Sem:=
 Co.rec (motive:=fun _=>Sem) aa2 (fun nal ops prs out=>aen nal ops prs out) (fun _ _ a b=>afF a b) (fun c _ _ t e=>adJ c t e) (fun id _ b=>abT id b) (fun live _ b=>ad9 live b) (fun id=>aaO id) aep (fun g _ c=>ghS g c) c
def DA (r:Option (Ex×St))(kn:K)(ke:Nat->K)(kr:K):R:=
 match r with
 |none=>none
 |some (.norm,st)=>kn st.tm st.hp
 |some (.exit i,st)=>ke i st.tm st.hp
 |some (.ret,st)=>kr st.tm st.hp
def L5 {m:Nat}{live:LN}{body:St->Option (Ex×St)}{bodyK:Tm->List Ob->K->(Nat->K)->K->R}{ke:Nat->K}{kr kn:K}(hb:∀tm hp kn,bodyK tm hp kn ke kr=DA (body ⟨tm,hp⟩) kn ke kr):∀(aH:Nat) (tm:Tm) (hp:List Ob),EQ m live (fun tm hp k=>bodyK tm hp k ke kr) aH tm hp=DA (pQ m body live aH ⟨tm,hp⟩) kn ke kr
 |0,tm,hp=>rfl
 |n+1,tm,hp=>by
  show á m live tm hp (fun tm hp=>bodyK tm hp (EQ m live (fun tm hp k=>bodyK tm hp k ke kr) n) ke kr)=_;rw[â];simp only[pQ];cases pO m (.keep live) ⟨tm,hp⟩with
  |none=>rfl
  |some st=>
   show bodyK st.tm st.hp (EQ m live (fun tm hp k=>bodyK tm hp k ke kr) n) ke kr=_;rw[hb];show DA (body st) _ ke kr=DA (match body st with
    |some (.norm,st')=>pQ m body live n st'
    |r=>r) kn ke kr
   cases body st with
   |none=>rfl
   |some p=>
    obtain⟨ex,st'⟩:=p;cases ex with
    |norm=>exact L5 hb n _ _
    |exit i=>rfl
    |ret=>rfl
def qx (call:aw)(aH m:Nat):∀(c:Co) (tm:Tm) (hp:List Ob) (kn:K) (ke:Nat->K) (kr:K),ZL c call aH m tm hp kn ke kr=DA (cr call aH m c ⟨tm,hp⟩) kn ke kr
 | .skip,tm,hp,kn,ke,kr=>rfl
 | .ret,tm,hp,kn,ke,kr=>rfl
 | .exit i,tm,hp,kn,ke,kr=>rfl
 | .reg nal ops none out,tm,hp,kn,ke,kr=>by
  show GY call hp.length ops tm (uF nal hp) (fun tm hp=>kn (lY out tm) hp)=_;rw[SF,Lq];simp only[cr,uy];cases mK call hp.length ops ⟨tm,grow hp (List.replicate nal .unborn)⟩with
  |none=>rfl
  |some st=>simp only[DA,Br]
 | .reg nal ops (some ps) out,tm,hp,kn,ke,kr=>by
  show uM call hp.length ops tm (uF nal hp) [] (fun tm hp fs=>sU (fV fs ps) (kn (lY out tm) hp) none)=_;rw[Ly,Lq];simp only[cr,uy];cases eN call hp.length ops ⟨tm,grow hp (List.replicate nal .unborn)⟩ []with
  |none=>rfl
  |some p=>
   obtain⟨st,fs⟩:=p;simp only[m6];cases fV fs ps
   ·rfl
   ·simp only[DA,cond_true,Br]
 | .seq a b,tm,hp,kn,ke,kr=>by
  show ZL a call aH m tm hp (fun tm hp=>ZL b call aH m tm hp kn ke kr) ke kr=_;rw[qx call aH m a];simp only[cr];cases cr call aH m a ⟨tm,hp⟩with
  |none=>rfl
  |some p=>
   obtain⟨ex,st⟩:=p;cases ex with
   |norm=>exact qx call aH m b _ _ _ _ _
   |exit i=>rfl
   |ret=>rfl
 | .cond c t e,tm,hp,kn,ke,kr=>by
  show RR (ϩ tm c) (ZL t call aH m tm hp kn ke kr) (ZL e call aH m tm hp kn ke kr)=_;rw[qx call aH m t,qx call aH m e,Ã];simp only[cr];cases ev tm c<;>try rfl
  rename_i x;cases x<;>try rfl
  rename_i b;cases b<;>rfl
 | .block id b,tm,hp,kn,ke,kr=>by
  show ZL b call aH m tm hp kn (fun i tm hp=>sU (Nat.beq i id) (kn tm hp) (ke i tm hp)) kr=_;rw[qx call aH m b];simp only[cr];cases cr call aH m b ⟨tm,hp⟩with
  |none=>rfl
  |some p=>
   obtain⟨ex,st⟩:=p;cases ex with
   |norm=>rfl
   |ret=>rfl
   |exit i=>
    simp only[DA,m6];grind
 | .loop live b,tm,hp,kn,ke,kr=>L5 (fun tm hp kn=>qx call aH m b tm hp kn ke kr) aH tm hp
 | .gh g c,tm,hp,kn,ke,kr=>by
  show ghK m g tm hp (fun tm hp=>ZL c call aH m tm hp kn ke kr)=_;rw[acr];simp only[cr];cases pO m g ⟨tm,hp⟩with
  |none=>rfl
  |some st=>exact qx call aH m c _ _ _ _ _
def EH (hp:List Ob):∀{ds:List D},ds.all NQ=true->uC hp ds=(ds,hp)
 |[],_=>rfl
 |d::r,h=>by
  simp only[List.all_cons,lγ]at h;cases d<;>simp only[NQ,Bool.false_eq_true,false_and]at h;have e:uC hp r=(r,hp):=EH hp h.2;simp only[uC,dids,List.map_nil,pur,ir,ar,e]
def Vv (m:Nat)(ds:List D)(hp:List Ob):R:=
 forceNs (fW hp bi (eL ds (jR m hp)) (List.range m)) fun ids=>qB (jb (kQ ids) (one ds)) fun r=>forceHb (pd ids hp) fun out=>some (r,out)
def Ϯ (m:Nat)(fz:Bool)(ds:List D)(hp:List Ob):R:=
 qM ds (Bool.rec (motive:=fun _=>R) (Vv m ds hp) (Prod.rec (motive:=fun _=>R) (fun ds hp=>Vv m ds hp) (uC hp ds)) fz)
  fun ds=>Nat.rec (motive:=fun _=>R) (some (one ds,[])) (fun _ _=>Vv m ds hp) m
def GE (m:Nat)(ds:List D)(hp:List Ob):Vv m ds hp=some (mapD (idx (close hp bi (dids.didsL ds++(hp.take m).flatMap ky) (List.range m))) (one ds),bZ (close hp bi (dids.didsL ds++(hp.take m).flatMap ky) (List.range m)) hp):=by
 simp only[Vv,lW,Vy,lV,eu,fj,jK,gK,lk,mf]
def Sh (m:Nat)(fz:Bool)(ds:List D)(hp:List Ob):Ϯ m fz ds hp=some (kX m fz ds hp):=by
 unfold Ϯ;rw[kC];cases h:ds.all NQ
 ·cases fz with
  |false=>exact GE m ds hp
  |true=>
   simp;exact GE _ _ _
 ·have e:(bif fz then uC hp ds else(ds,hp))=(ds,hp):=by cases fz<;>simp[EH hp h]
  cases m with
  |succ m=>
   show Vv (m+1) ds hp=_;rw[GE];simp only[kX,e]
  |zero=>
   have hp1:Ca (one ds)=true:=by
    unfold one;split
    ·rename_i d;cases d<;>simp_all [NQ,Ca]
    ·exact h
   simp only[kX,e,q9 h,List.range_zero];rw[wV _ hp1];rfl
def rvK (tm:Tm)(hp:List Ob)(r:Rv)(k:D->R):R:=
 Rv.rec (motive:=fun _=>R) (fun n=>k (qD tm n)) (fun a n agg=>D.rec (motive_1:=fun _=>R) (motive_2:=fun _=>PUnit.{1})
  (fun _=>none) (fun _ _=>none) (fun _ _=>none) (fun id off=>mJ (Ml hp id) none fun cs=>QO cs off n fun ds=>tg agg ds k) (fun _ _ _=>none) (fun _ _=>none) (fun _ _ _ _=>none) (fun _ _ _=>none) (fun _=>none) (fun _ _ _=>none) (fun _ _ _=>none) none ⟨⟩ (fun _ _ _ _=>⟨⟩) (qD tm a)) r
def adb (tm:Tm)(hp:List Ob)(r:Rv)(k:D->R):rvK tm hp r k=caseO (Lc ⟨tm,hp⟩ r) none k:=by
 cases r with
 |t n=>simp only[rvK,Lc,gR,caseO]
 |cell a n agg=>
  simp only[rvK,Lc,gR,m9,vu,nN];cases get tm a<;>try rfl
  rename_i id off;have:aX hp id=hp.getD id .dead:=rfl;simp only[this];cases hp.getD id .dead<;>try rfl
  rename_i cs;simp only[mJ];cases sub cs off n<;>rfl
def Q_ (tm:Tm)(hp:List Ob)(rs:List Rv)(k:List D->R):R:=
 List.rec (motive:=fun _=>(List D->R)->R) (fun k=>k []) (fun r _ ih k=>rvK tm hp r fun d=>ih fun ds=>k (d::ds)) rs k
def Tg (tm:Tm)(hp:List Ob):∀(rs:List Rv) (k:List D->R),Q_ tm hp rs k=caseO (lR ⟨tm,hp⟩ rs) none k
 |[],k=>rfl
 |r::rs,k=>by
  show rvK tm hp r (fun d=>Q_ tm hp rs fun ds=>k (d::ds))=_;rw[adb];simp only[Tg tm hp rs,lR];cases Lc ⟨tm,hp⟩ r with
  |none=>rfl
  |some d=>
   cases lR ⟨tm,hp⟩ rs<;>rfl
def Nr (b:Sem)(call:aw)(n:Nat)(res:List Rv)(fz:Bool)(args:List D)(hp:List Ob):R:=
 b call n hp.length (fe args 0) hp (fun tm hp'=>Q_ tm hp' res fun ds=>Ϯ hp.length fz ds hp') (fun _ _ _=>none) (fun tm hp'=>Q_ tm hp' res fun ds=>Ϯ hp.length fz ds hp')
def Tf (call:aw)(aH:Nat)(x:Fx)(args:List D)(hp:List Ob):Nr (ZL x.body) call aH x.res x.fz args hp=aa0 call aH x args hp:=by
 unfold Nr aa0 qO;simp only[Tg];rw[qx];cases cr call aH hp.length x.body ⟨fe args 0,hp⟩with
 |none=>rfl
 |some p=>
  obtain⟨ex,st⟩:=p;cases ex with
  |norm=>
   simp only[DA,Sh];cases lR st x.res<;>rfl
  |ret=>
   simp only[DA,Sh];cases lR st x.res<;>rfl
  |exit i=>rfl
inductive Hn where
 |code (b:Sem) (res:List Rv) (fz:Bool)
 |prim (g:LD->Option (D×List Ob))
 |both (g:LD->Option (D×List Ob)) (b:Sem) (res:List Rv) (fz:Bool)
 |any (g:List D->List Ob->Option (D×List Ob))
def hn (tab:Option Hn)(ih:aw)(n:Nat)(args:List D)(hp:List Ob):R:=
 Option.rec (motive:=fun _=>R) none (fun h=>Hn.rec (motive:=fun _=>R) (fun b res fz=>Nr b ih n res fz args hp) (fun g=>match ko args with
   |some xs=>match hp with
    |[]=>g xs
    |_=>none
   |none=>none) (fun g b res fz=>match ko args with
   |some xs=>match hp with
    |[]=>g xs
    |_=>Nr b ih n res fz args hp
   |none=>Nr b ih n res fz args hp) (fun g=>g args hp) h) tab
def IJ (tab:Nat->Option Hn)(n:Nat):aw:=
 Nat.rec (motive:=fun _=>aw) (fun _ _ _=>none) (fun n ih f args hp=>hn (tab f) ih n args hp) n
def same (a:Option Hn)(b:Option Fn):Prop:=
 match a,b with
 |none,none=>True
 |some (.code g res fz),some (.code x)=>ZL x.body=g/\x.res=res/\x.fz=fz
 |some (.prim g),some (.prim h)=>g=h
 |some (.both g b res fz),some (.both h x)=>g=h/\ZL x.body=b/\x.res=res/\x.fz=fz
 |some (.any g),some (.any h)=>g=h
 |_,_=>False
def Å {tabH:Nat->Option Hn}{tab:Nat->Option Fn}(h:∀f,same (tabH f) (tab f)):∀n,IJ tabH n=evFn tab n
 |0=>by rfl
 |n+1=>by
  funext f args hp
  show hn (tabH f) (IJ tabH n) n args hp=_;rw[Å h n];have hf:=h f;simp only[evFn,acE];cases h1:tabH f with
  |none=>
   rw[h1]at hf;cases h2:tab f with
   |none=>rfl
   |some x=>rw[h2]at hf;cases x<;>exact hf.elim
  |some a=>
   rw[h1]at hf;cases h2:tab f with
   |none=>rw[h2]at hf;cases a<;>exact hf.elim
   |some x=>
    rw[h2]at hf;cases a with
    |code g res fz=>
     cases x with
     |code x=>
      obtain⟨h3,rfl,rfl⟩:=hf;show Nr g (evFn tab n) n x.res x.fz args hp=_;rw[<-h3,Tf]
     |prim q=>exact hf.elim
     |both q x=>exact hf.elim
     |any q=>exact hf.elim
    |prim g=>
     cases x with
     |code x=>exact hf.elim
     |prim q=>obtain rfl:g=q:=hf;rfl
     |both q x=>exact hf.elim
     |any q=>exact hf.elim
    |both g b res fz=>
     cases x with
     |code x=>exact hf.elim
     |prim q=>exact hf.elim
     |both q x=>
      obtain⟨rfl,h3,rfl,rfl⟩:=hf;show(match ko args with
       |some xs=>match hp with
        |[]=>g xs
        |_=>Nr b (evFn tab n) n x.res x.fz args hp
       |none=>Nr b (evFn tab n) n x.res x.fz args hp)=_
      rw[<-h3,Tf];rfl
     |any q=>exact hf.elim
    |any g=>
     cases x with
     |code x=>exact hf.elim
     |prim q=>exact hf.elim
     |both q x=>exact hf.elim
     |any q=>obtain rfl:g=q:=hf;rfl
def acA (b:Bool)(x y:Option Hn):Option Hn:=Bool.rec (motive:=fun _=>Option Hn) y x b
def Fh {b:Bool}{x y:Option Hn}{x' y':Option Fn}(h:same x x')(k:same y y'):same (acA b x y) (bif b then x' else y'):=by
 cases b
 ·exact k
 ·exact h
end
section
def sJ (a b:Bool):Bool:=Bool.rec (motive:=fun _=>Bool) false b a
def ug (a b:Bool):sJ a b=(a&&b):=by cases a<;>rfl
def ae1 (y:Da)(k:IntKind->Int->Bool):Bool:=
 Da.rec (motive_1:=fun _=>Bool) (motive_2:=fun _=>PUnit.{1}) (fun _=>false) (fun i n=>k i n) (fun _=>false) (fun _ _=>false) (fun _ _ _=>false) false (fun _ _=>false) (fun _ _ _ _=>false) false (fun _ _ _=>false) false (fun _ _ _=>false) false (fun _ _ _=>false) (fun _ _=>false) ⟨⟩ (fun _ _ _ _=>⟨⟩) y
def ae3 (y:Da)(k:LN->Bool):Bool:=
 Da.rec (motive_1:=fun _=>Bool) (motive_2:=fun _=>PUnit.{1}) (fun _=>false) (fun _ _=>false) (fun s=>k s) (fun _ _=>false) (fun _ _ _=>false) false (fun _ _=>false) (fun _ _ _ _=>false) false (fun _ _ _=>false) false (fun _ _ _=>false) false (fun _ _ _=>false) (fun _ _=>false) ⟨⟩ (fun _ _ _ _=>⟨⟩) y
def ae0 (y:Da)(k:LD->Bool):Bool:=
 Da.rec (motive_1:=fun _=>Bool) (motive_2:=fun _=>PUnit.{1}) (fun _=>false) (fun _ _=>false) (fun _=>false) (fun cs _=>k cs) (fun _ _ _=>false) false (fun _ _=>false) (fun _ _ _ _=>false) false (fun _ _ _=>false) false (fun _ _ _=>false) false (fun _ _ _=>false) (fun _ _=>false) ⟨⟩ (fun _ _ _ _=>⟨⟩) y
def ň (y:Da)(k:Nat->LD->Bool):Bool:=
 Da.rec (motive_1:=fun _=>Bool) (motive_2:=fun _=>PUnit.{1}) (fun _=>false) (fun _ _=>false) (fun _=>false) (fun _ _=>false) (fun z es _=>k z es) false (fun _ _=>false) (fun _ _ _ _=>false) false (fun _ _ _=>false) false (fun _ _ _=>false) false (fun _ _ _=>false) (fun _ _=>false) ⟨⟩ (fun _ _ _ _=>⟨⟩) y
def TT (y:Da)(k:Nat->LD->Bool):Bool:=
 Da.rec (motive_1:=fun _=>Bool) (motive_2:=fun _=>PUnit.{1}) (fun _=>false) (fun _ _=>false) (fun _=>false) (fun _ _=>false) (fun _ _ _=>false) false (fun _ _=>false) (fun _ _ _ _=>false) false (fun _ _ _=>false) false (fun _ _ _=>false) false (fun z es _=>k z es) (fun _ _=>false) ⟨⟩ (fun _ _ _ _=>⟨⟩) y
def À (m n:Int):Bool:=Int.rec (motive:=fun _=>Bool) (fun a=>Int.rec (motive:=fun _=>Bool) (fun b=>Nat.beq a b) (fun _=>false) n) (fun a=>Int.rec (motive:=fun _=>Bool) (fun _=>false) (fun b=>Nat.beq a b) n) m
def Ϥ {m n:Int}(h:À m n=true):m=n:=by
 cases m<;>cases n<;>simp only[À,Bool.false_eq_true]at h
 ·rw[lη h]
 ·rw[lη h]
def K9:∀{a b:LN},bv a b=true->a=b
 |[],[],_=>rfl
 |[],_::_,h=>by simp[bv]at h
 |_::_,[],h=>by simp[bv]at h
 |x::a,y::b,h=>by
  simp only[bv]at h;cases hx:Nat.beq x y
  ·simp[hx]at h
  ·simp only[hx,cond_true]at h;rw[lη hx,K9 h]
def ϣ (x:Da):Da->Bool:=
 Da.rec (motive_1:=fun _=>Da->Bool) (motive_2:=fun _=>LD->Bool)
  (fun _ _=>false) (fun i n y=>ae1 y fun j m=>sJ (Nat.beq (kc i) (kc j)) (À n m)) (fun s y=>ae3 y fun t=>Pu s t) (fun _ ih y=>ae0 y ih) (fun z _ ih y=>ň y fun z' es'=>sJ (Nat.beq z z') (ih es'))
  (fun _=>false) (fun _ _ _=>false) (fun _ _ _ _ _=>false) (fun _=>false) (fun _ _ _ _=>false) (fun _=>false) (fun _ _ _ _=>false) (fun _=>false) (fun z _ ih y=>TT y fun z' es'=>sJ (Nat.beq z z') (ih es')) (fun _ _ _=>false)
  (fun ys=>List.rec (motive:=fun _=>Bool) true (fun _ _ _=>false) ys) (fun _ _ ihd ihr ys=>List.rec (motive:=fun _=>Bool) false (fun y ys _=>sJ (ihd y) (ihr ys)) ys) x
def K6 (xs:LD):LD->Bool:=
 List.rec (motive:=fun _=>LD->Bool) (fun ys=>List.rec (motive:=fun _=>Bool) true (fun _ _ _=>false) ys) (fun x _ ih ys=>List.rec (motive:=fun _=>Bool) false (fun y ys _=>sJ (ϣ x y) (ih ys)) ys) xs
mutual
def Sd:∀(x y:Da),ϣ x y=true->x=y
 | .bool _,y,h=>absurd (show false=true from h) Bool.false_ne_true
 | .int i n,y,h=>by
  cases y<;>try exact absurd (show false=true from h) Bool.false_ne_true
  rename_i j m;have h':sJ (Nat.beq (kc i) (kc j)) (À n m)=true:=h;rw[ug,ß,lγ,lδ]at h';rw[h'.1,Ϥ h'.2]
 | .str s,y,h=>by
  cases y<;>try exact absurd (show false=true from h) Bool.false_ne_true
  rename_i t;have h':Pu s t=true:=h;rw[GB]at h';rw[K9 h']
 | .agg cs,y,h=>by
  cases y<;>try exact absurd (show false=true from h) Bool.false_ne_true
  rename_i cs';rw[zo cs cs' h]
 | .slice z es,y,h=>by
  cases y<;>try exact absurd (show false=true from h) Bool.false_ne_true
  rename_i z' es';have h':sJ (Nat.beq z z') _=true:=h;rw[ug,lγ]at h';rw[lη h'.1,zo es es' h'.2]
 | .nilptr,y,h=>absurd (show false=true from h) Bool.false_ne_true
 | .ptr _,y,h=>absurd (show false=true from h) Bool.false_ne_true
 | .map _ _,y,h=>absurd (show false=true from h) Bool.false_ne_true
 | .nilmap,y,h=>absurd (show false=true from h) Bool.false_ne_true
 | .fn _ _,y,h=>absurd (show false=true from h) Bool.false_ne_true
 | .nilfn,y,h=>absurd (show false=true from h) Bool.false_ne_true
 | .iface _ _,y,h=>absurd (show false=true from h) Bool.false_ne_true
 | .nilif,y,h=>absurd (show false=true from h) Bool.false_ne_true
 | .sliceE z es,y,h=>by
  cases y<;>try exact absurd (show false=true from h) Bool.false_ne_true
  rename_i z' es';have h':sJ (Nat.beq z z') _=true:=h;rw[ug,lγ]at h';rw[lη h'.1,zo es es' h'.2]
 | .sym _ _,y,h=>absurd (show false=true from h) Bool.false_ne_true
def zo:∀(xs ys:LD),Da.rec_1 (motive_1:=fun _=>Da->Bool) (motive_2:=fun _=>LD->Bool)
  (fun _ _=>false) (fun i n y=>ae1 y fun j m=>sJ (Nat.beq (kc i) (kc j)) (À n m)) (fun s y=>ae3 y fun t=>Pu s t) (fun _ ih y=>ae0 y ih) (fun z _ ih y=>ň y fun z' es'=>sJ (Nat.beq z z') (ih es'))
  (fun _=>false) (fun _ _ _=>false) (fun _ _ _ _ _=>false) (fun _=>false) (fun _ _ _ _=>false) (fun _=>false) (fun _ _ _ _=>false) (fun _=>false) (fun z _ ih y=>TT y fun z' es'=>sJ (Nat.beq z z') (ih es')) (fun _ _ _=>false)
  (fun ys=>List.rec (motive:=fun _=>Bool) true (fun _ _ _=>false) ys) (fun _ _ ihd ihr ys=>List.rec (motive:=fun _=>Bool) false (fun y ys _=>sJ (ihd y) (ihr ys)) ys) xs ys=true->xs=ys
 |[],[],_=>rfl
 |[],_::_,h=>by cases h
 |_::_,[],h=>by cases h
 |x::xs,y::ys,h=>by
  have h':sJ (ϣ x y) _=true:=h;rw[ug,lγ]at h';rw[Sd x y h'.1,zo xs ys h'.2]
end
def K7:∀{xs ys:LD},K6 xs ys=true->xs=ys
 |[],[],_=>rfl
 |[],_::_,h=>by cases h
 |_::_,[],h=>by cases h
 |x::xs,y::ys,h=>by
  have h':sJ (ϣ x y) (K6 xs ys)=true:=h;rw[ug,lγ]at h';rw[Sd x y h'.1,K7 h'.2]
def memo (l:List (LD×R))(xs:LD):R:=
 List.rec (motive:=fun _=>R) none (fun p _ ih=>Bool.rec (motive:=fun _=>R) ih p.2 (K6 p.1 xs)) l
def L8:∀{l:List (LD×R)} {xs:LD} {ro:D×List Ob},memo l xs=some ro->∃p∈l,p.1=xs/\p.2=some ro
 |[],xs,ro,h=>by cases h
 |p::l,xs,ro,h=>by
  have h':Bool.rec (motive:=fun _=>R) (memo l xs) p.2 (K6 p.1 xs)=some ro:=h;cases he:K6 p.1 xs
  ·rw[he]at h';obtain⟨q,h1,h2⟩:=L8 (l:=l) h';exact⟨q,mω _ h1,h2⟩
  ·rw[he]at h';exact⟨p,mπ ..,K7 he,h'⟩
variable [Letters]
def EU (l:List (LD×R))(call:aw)(f:Nat)(xs:LD):R:=
 Option.rec (motive:=fun _=>R) (call f (xs.map .p) []) (fun r=>some r) (memo l xs)
theorem BH {P:Program}{G:bV}{call:aw}(hc:gA P G call){f:Nat}{l:List (LD×R)}(h:∀p∈l,p.2=none\/call f (p.1.map .p) []=p.2):iK P G f (EU l call f):=by
 intro xs r out hm;have hcall:call f (xs.map .p) []=some (r,out):=by
  unfold EU at hm;cases hq:memo l xs with
  |none=>rw[hq]at hm;exact hm
  |some ro=>
   rw[hq]at hm;obtain⟨p,hp,hx,hr⟩:=L8 hq;rcases h p hp with h1|h1
   ·rw[h1]at hr;cases hr
   ·rw[hr,hx]at h1;rw[h1];exact hm
 obtain⟨c1,c2⟩:=hc f _ [] _ _ hcall;refine⟨c1,fun w S vs hS hg hv=>?_⟩
 exact c2 [] w S vs ⟨rfl,by intro id l o h;simp at h,by rintro b ⟨id,l,o,h,_⟩;simp at h,by intro id id' l l' o o' b h;simp at h,hS⟩ hg (Pw.map_left (by simpa only[VR]using hv))
end
def ew (n:Int):LN:=(Lib.itoa n).map UInt8.toNat
def nQ:LD->Option (D×List Ob)
 |[.int .i64 n]=>bif aS (-9223372036854775808) n&&aS n 9223372036854775807 then some (.p (.str (ew n)),[])else none
 |_=>none
section
variable [Letters]
theorem Tz {P:Program}{G:bV}{tab:Nat->Option Fn}(h:xG P G tab){k:Nat}{g:LD->Option (D×List Ob)}(hg:iK P G k g):xG P G (fun f=>bif Nat.beq f k then some (.prim g)else tab f):=by
 refine⟨fun f x hx=>?_,fun f g' hx=>?_,fun f g' x hx=>?_,fun f g' hx=>?_⟩
 ·cases hk:Nat.beq f k
  ·rw[hk]at hx;exact h.code f x hx
  ·rw[hk]at hx;simp at hx
 ·cases hk:Nat.beq f k
  ·rw[hk]at hx;exact h.prim f g' hx
  ·rw[hk]at hx;simp only[cond_true,lβ,Fn.prim.injEq]at hx;subst hx;rw[lη hk];exact hg
 ·cases hk:Nat.beq f k
  ·rw[hk]at hx;exact h.both f g' x hx
  ·rw[hk]at hx;simp at hx
 ·cases hk:Nat.beq f k
  ·rw[hk]at hx;exact h.any f g' hx
  ·rw[hk]at hx;simp at hx
theorem Ϫ {P:Program}{G:bV}(hmix:P.follows .mixedOrders=true){tab:Nat->Option Fn}{tabH:Nat->Option Hn}(h:xG P G tab)(hs:∀f,same (tabH f) (tab f))(n:Nat):gA P G (IJ tabH n):=by
 rw[Å hs n];exact ux hmix h n
end
section
def Ü (x:Nat):LN->LN
 |[]=>[x]
 |y::r=>bif Nat.beq x y then y::r else bif Nat.blt x y then x::y::r else y::Ü x r
def acb (x:Nat):LN->LN
 |[]=>[]
 |y::r=>bif Nat.beq x y then r else y::acb x r
def aeP:LN->LN->LN
 |[],l=>l
 |x::r,l=>Ü x (aeP r l)
def eO (x:Nat):LN->Bool
 |[]=>false
 |y::r=>bif Nat.beq x y then true else eO x r
def aa3:A->LN->LN
 | .t n,l=>Ü n l
 |_,l=>l
def Ġ:List A->LN->LN
 |[],l=>l
 |a::r,l=>aa3 a (Ġ r l)
def ad7 (x:eP)(l:LN):LN:=
 Ġ x.as (match x.gd with
  |some (g,_)=>Ü g (match x.dst with|some d=>acb d l|none=>l)
  |none=>(match x.dst with|some d=>acb d l|none=>l))
def SN:List eP->LN->LN
 |[],out=>out
 |x::r,out=>ad7 x (SN r out)
def Sj (t:Nat):List (Nat×eP)->Option eP
 |[]=>none
 |(s,x)::r=>bif Nat.beq s t then some x else Sj t r
def Iu (d:List (Nat×eP)):Nat->Nat->Nat->Option (Nat×Nat)
 |0,_,_=>none
 |n+1,p,off=>match Sj p d with
  |none=>some (p,off)
  |some x=>match x.op,x.as with
   | .fa k,.t q::_=>Iu d n q (off+k)
   | .mv,.t q::_=>Iu d n q off
   | .nilck,.t q::_=>Iu d n q off
   |_,_=>none
def afA (d:List (Nat×eP))(x:eP):List Gh:=
 match x.op,x.as with
 | .app z _,.t t::_=>match Sj t d with
  |none=>[.own t z]
  |some y=>match y.op,y.as with
   | .mv,.t s::_=>match Sj s d with
    |none=>[.own s z]
    |some _=>[]
   | .load _ _,.t p::_=>match Iu d 20 p 0 with
    |some (q,off)=>[.ownc q off z]
    |none=>[]
   |_,_=>[]
 |_,_=>[]
def ċ:List (Nat×eP)->List eP->List Gh
 |_,[]=>[]
 |d,x::r=>afA d x++ċ (match x.dst with|some s=>(s,x)::d|none=>d) r
def vf:Co->List Gh
 | .reg _ ops _ _=>ċ [] ops
 | .seq a b=>vf a++vf b
 | .cond _ a b=>vf a++vf b
 | .block _ b=>vf b
 | .loop _ b=>vf b
 | .gh _ b=>vf b
 |_=>[]
def afm:Gh->Gh->Bool
 | .own s z,.own t y=>Nat.beq s t&&Nat.beq z y
 | .ownc s o z,.ownc t p y=>Nat.beq s t&&(Nat.beq o p&&Nat.beq z y)
 |_,_=>false
def Ø (g:Gh):List Gh->Bool
 |[]=>false
 |h::r=>bif afm g h then true else Ø g r
def ġ:Gh->Nat
 | .own s _=>s
 | .ownc s _ _=>s
 | .frz s=>s
 | .frzc s _=>s
 | .keep _=>0
def NK (h:LN):List Gh->List Gh->Co->Co
 |[],_,c=>c
 |g::r,seen,c=>bif eO (ġ g) h&&!Ø g seen then .gh g (NK h r (g::seen) c)else NK h r seen c
def adT:List (Nat×LN)->Nat->LN
 |[],_=>[]
 |(j,l)::r,i=>bif Nat.beq j i then l else adT r i
def yM (rl:LN):Co->LN->List (Nat×LN)->Co×LN
 | .skip,out,_=>(.skip,out)
 | .ret,_,_=>(.ret,rl)
 | .exit i,_,ex=>(.exit i,adT ex i)
 | .reg n ops ps _,out,_=>(.reg n ops ps out,SN ops out)
 | .seq a b,out,ex=>(.seq (yM rl a (yM rl b out ex).2 ex).1 (yM rl b out ex).1,(yM rl a (yM rl b out ex).2 ex).2)
 | .cond c t e,out,ex=>(.cond c (yM rl t out ex).1 (yM rl e out ex).1,aa3 c (aeP (yM rl t out ex).2 (yM rl e out ex).2))
 | .block i b,out,ex=>(.block i (yM rl b out ((i,out)::ex)).1,(yM rl b out ((i,out)::ex)).2)
 | .loop _ b,_,ex=>(NK (yM rl b [] ex).2 (vf b) [] (.loop (yM rl b [] ex).2 (yM rl b (yM rl b [] ex).2 ex).1),(yM rl b [] ex).2)
 | .gh g c,out,ex=>(.gh g (yM rl c out ex).1,(yM rl c out ex).2)
def Bb (h:LN)(c:Co):∀(gs seen:List Gh),er (NK h gs seen c)=er c
 |[],_=>rfl
 |g::r,seen=>by
  simp only[NK];cases eO (ġ g) h&&!Ø g seen
  ·exact Bb h c r seen
  ·exact Bb h c r (g::seen)
def qA (rl:LN):∀(c:Co) (out:LN) (ex:List (Nat×LN)),er (yM rl c out ex).1=er c
 | .skip,_,_=>rfl
 | .ret,_,_=>rfl
 | .exit _,_,_=>rfl
 | .reg _ _ _ _,_,_=>rfl
 | .seq a b,out,ex=>by simp only[yM,er,qA rl a,qA rl b]
 | .cond c t e,out,ex=>by simp only[yM,er,qA rl t,qA rl e]
 | .block i b,out,ex=>by simp only[yM,er,qA rl b]
 | .loop _ b,out,ex=>by simp only[yM,Bb,er,qA rl b]
 | .gh g c,out,ex=>by simp only[yM,er,qA rl c]
def ghAt:LN->Gh->Co->Co
 |[],g,c=> .gh g c
 |0::p,g,.seq a b=> .seq (ghAt p g a) b
 |1::p,g,.seq a b=> .seq a (ghAt p g b)
 |0::p,g,.cond c a b=> .cond c (ghAt p g a) b
 |1::p,g,.cond c a b=> .cond c a (ghAt p g b)
 |0::p,g,.block i b=> .block i (ghAt p g b)
 |0::p,g,.loop l b=> .loop l (ghAt p g b)
 |0::p,g,.gh h b=> .gh h (ghAt p g b)
 |_,_,c=>c
def ϧ:∀(p:LN) (g:Gh) (c:Co),er (ghAt p g c)=er c:=by
 intro p g c;induction p,g,c using ghAt.induct<;>simp_all [ghAt,er]
def Ss:List (LN×Gh)->Co->Co
 |[],c=>c
 |(p,g)::r,c=>ghAt p g (Ss r c)
def La:∀(l:List (LN×Gh)) (c:Co),er (Ss l c)=er c
 |[],_=>rfl
 |(p,g)::r,c=>by simp only[Ss,ϧ,La r]
variable {raw:Nat->Bool}
def Ψ {P:Program}{G:bV}{N:Nat}{ops:List Oper}{draw:Bool}{x:Co}(h:Pe P G raw N ops draw=some x):er x=x:=by
 unfold Pe at h;split at h
 ·cases h
 ·cases draw
  ·simp at h;subst h;rfl
  ·cases he:jD ops 0
   ·simp_all
   ·rw[he]at h;simp at h;split at h
    ·simp at h;subst h;rfl
    ·cases h
def abU {P:Program}{G:bV}{N:Nat}:∀{c:Code} {x:Co},Gl P G raw N c=some x->er x=x:=by
 intro c;induction c<;>intro x h<;>simp only[Gl]at h
 all_goals try (first|(simp only[lβ]at h;subst h;rfl)|(cases h;done)|exact Ψ h)
 case seq a b iha ihb=>
  split at h
  ·rename_i a' b' ha hb;simp only[lβ]at h;subst h;simp only[er,iha ha,ihb hb]
  ·cases h
 case cond c t e iht ihe=>
  split at h
  ·rename_i c' t' e' hc ht he;simp only[lβ]at h;subst h;simp only[er,iht ht,ihe he]
  ·cases h
 case block i b ih=>
  split at h
  ·rename_i b' hb;simp only[lβ]at h;subst h;simp only[er,ih hb]
  ·cases h
 case loop b ih=>
  split at h
  ·rename_i b' hb;simp only[lβ]at h;subst h;simp only[er,ih hb]
  ·cases h
def ade:Rv->Nat
 | .t n=>n
 | .cell a _ _=>a
def Il:List Rv->LN
 |[]=>[]
 |r::rs=>Ü (ade r) (Il rs)
structure Rg where
 raw:Nat->Nat->Bool
 thaw:Nat->Bool
 ghs:Nat->List (LN×Gh)
 prim:Nat->Option (LD->Option (D×List Ob))
def VA (P:Program)(G:bV)(s:Rg)(f:Nat):Option Fx:=
 match P.funcs[f]? with
 |some fn=>match fn.body with
  |some c=>match Gl P G (s.raw f) fn.ntmps c,U2 P fn.results.toList with
   |some x,some rs=>some ⟨Ss (s.ghs f) (yM (Il rs) x (Il rs) []).1,rs,!s.thaw f⟩
   |_,_=>none
  |none=>none
 |none=>none
def VB {P:Program}{G:bV}{s:Rg}{f:Nat}{x:Fx}(h:VA P G s f=some x):∃fn,P.funcs[f]?=some fn/\Vw P G (s.raw f) fn x:=by
 unfold VA at h;split at h
 ·rename_i fn hf;refine⟨fn,hf,?_⟩;split at h
  ·rename_i c hc;split at h
   ·rename_i y rs hy hr;simp only[lβ]at h;subst h;refine⟨?_,hr⟩;rw[hc];simp only[hy,La,qA,abU hy]
   ·cases h
  ·cases h
 ·cases h
def Ī (P:Program)(G:bV)(s:Rg)(f:Nat):Option Fn:=
 match s.prim f with
 |some g=>match VA P G s f with
  |some x=>some (.both g x)
  |none=>some (.prim g)
 |none=>match VA P G s f with
  |some x=>some (.code x)
  |none=>none
variable [Letters]
theorem aab {P : Program} {G : bV} {s : Rg} (hn : P.funcs.toList.all (fun fn => !(fn.name == "runtime.NumGoroutine")) = true) (hp : ∀ f g, s.prim f = some g → iK P G f g) : xG P G (Ī P G s) := by
 have hc : ∀ f y, VA P G s f = some y → ∃ fn raw, P.funcs[f]? = some fn ∧ Vw P G raw fn y ∧ (fn.name == "runtime.NumGoroutine") = false := by
  intro f y hy;obtain⟨fn,h1,h2⟩:=VB hy;refine⟨fn,s.raw f,h1,h2,?_⟩;have hm:fn∈P.funcs.toList:=by
   rw[Array.mem_toList_iff];exact Array.mem_of_getElem? h1
  simpa using List.all_eq_true.mp hn fn hm
 refine⟨fun f x h=>?_,fun f g h=>?_,fun f g x h=>?_,fun f g h=>?_⟩
 all_goals
  unfold Ī at h;split at h
  ·rename_i g' hg;split at h
   ·rename_i y hy;first
     |(cases h;done)
     |(simp only[lβ,Fn.both.injEq]at h;obtain⟨rfl,rfl⟩:=h;exact⟨hp f _ hg,hc f _ hy⟩)
   ·first
     |(cases h;done)
     |(simp only[lβ,Fn.prim.injEq]at h;subst h;exact hp f _ hg)
  ·split at h
   ·rename_i y hy;first
     |(cases h;done)
     |(simp only[lβ,Fn.code.injEq]at h;subst h;exact hc f _ hy)
   ·cases h
end
structure Bx (α:Type) where
 un:α
def k9 (l t:Tm):Tm:=Tm.rec (motive:=fun _=>Tm) t (fun s d _ ih=> .cons s d ih) l
def fy:Tm->LN
 | .nil=>[]
 | .cons s _ r=>s::fy r
def xa (s:Nat):LN->Option Nat
 |[]=>none
 |x::r=>bif Nat.beq x s then some 0 else match xa s r with
  |some j=>some (j+1)
  |none=>none
def tlT (l:Tm):Tm:=Tm.rec (motive:=fun _=>Tm) .nil (fun _ _ r _=>r) l
def hdT (l:Tm):D:=Tm.rec (motive:=fun _=>D) .junk (fun _ d _ _=>d) l
def R8:Nat->Bx (Tm->D)
 |0=>⟨fun l=>hdT l⟩
 |1=>⟨fun l=>hdT (tlT l)⟩
 |2=>⟨fun l=>hdT (tlT (tlT l))⟩
 |n+3=>⟨fun l=>(R8 n).un (tlT (tlT (tlT l)))⟩
def KX:∀(n:Nat) (l:Tm),(R8 n).un l=Nat.rec (motive:=fun _=>Tm->D) (fun l=>hdT l) (fun _ ih l=>ih (tlT l)) n l
 |0,l=>rfl
 |1,l=>rfl
 |2,l=>rfl
 |n+3,l=>KX n _
def E6 (s:Nat)(t:Tm):∀(l:Tm),get (k9 l t) s=match xa s (fy l)with
  |some j=>(R8 j).un l
  |none=>get t s
 | .nil=>rfl
 | .cons x d r=>by
  show(bif Nat.beq x s then d else get (k9 r t) s)=_;simp only[fy,xa];cases h:Nat.beq x s
  ·rw[E6 s t r];cases xa s (fy r)with
   |none=>rfl
   |some j=>
    simp only[KX];rfl
  ·rfl
def ML (σ:LN):A->Bx (Tm->Tm->D)
 | .t n=>match xa n σ with
  |some j=>⟨fun _ l=>(R8 j).un l⟩
  |none=>⟨fun t _=>qD t n⟩
 | .c x=>⟨fun _ _=> .p x⟩
 | .n z=>⟨fun _ _=> .sl .nil z []⟩
 | .f g=>⟨fun _ _=> .p (.fn g [])⟩
 | .g x=>⟨fun _ _=> .ip x 0⟩
def zC (l t:Tm)(a:A):(ML (fy l) a).un t l=ϩ (k9 l t) a:=by
 cases a<;>try rfl
 rename_i n;show _=qD (k9 l t) n;rw[gR,E6];simp only[ML];cases xa n (fy l)with
 |none=>simp only[gR]
 |some j=>rfl
abbrev Op1:=Bx (Tm->Tm->D)
def xm (as:List Op1)(t l:Tm):List D:=List.rec (motive:=fun _=>List D) [] (fun a _ ih=>a.un t l::ih) as
def opK (o:O)(kk:Nat)(as:List Op1):Bx (aw->Nat->Tm->Tm->List Ob->KV->R):=
 match o,as with
 | .mv,[a]=>⟨fun _ _ t l hp k=>k (a.un t l) hp⟩
 | .pick,[c,a,b]=>⟨fun _ _ t l hp k=>ď (c.un t l) (a.un t l) (b.un t l) fun v=>k v hp⟩
 | .bin op,[x,y]=>⟨fun _ _ t l hp k=>Θ op (x.un t l) (y.un t l) fun v=>k v hp⟩
 | .un .not,[x]=>⟨fun _ _ t l hp k=>acR (x.un t l) fun v=>k v hp⟩
 | .ia esz,[x,i]=>⟨fun _ _ t l hp k=>iaG esz (x.un t l) (i.un t l) fun v=>k v hp⟩
 | .ix,[x,i]=>⟨fun _ _ t l hp k=>ixK (x.un t l) (i.un t l) fun v=>k v hp⟩
 | .fa off,[x]=>⟨fun _ _ t l hp k=>faG off (x.un t l) fun v=>k v hp⟩
 | .nilck,[x]=>⟨fun _ _ t l hp k=>Ā (x.un t l) fun v=>k v hp⟩
 | .ext i,[x]=>⟨fun _ _ t l hp k=>Ϭ i (x.un t l) fun v=>k v hp⟩
 | .len kd,[x]=>⟨fun _ _ t l hp k=>ad6 kd (x.un t l) hp fun v=>k v hp⟩
 | .call f raw,as=>⟨fun call _ t l hp k=>RO call f raw (xm as t l) hp k⟩
 | .alloc zs,[]=>⟨fun _ base _ _ hp k=>Gc base kk zs hp k⟩
 | .box n,[d]=>⟨fun _ base t l hp k=>Υ base n kk (d.un t l) hp k⟩
 | .store n,[a,d]=>⟨fun call base t l hp k=>Ip call base n kk (a.un t l) (d.un t l) hp k⟩
 | .slStr lo hi,x::xs=>⟨fun _ _ t l hp k=>Ik lo hi (x.un t l) (xm xs t l) fun v=>k v hp⟩
 | .fld off n agg,[x]=>⟨fun _ _ t l hp k=>Ë off n agg (x.un t l) fun v=>k v hp⟩
 | .build zs ps,vs=>⟨fun _ _ t l hp k=>Gj zs ps (xm vs t l) fun v=>k v hp⟩
 | .app esz bytes,[a,b]=>⟨fun call base t l hp k=>Α call base esz bytes kk (a.un t l) (b.un t l) hp k⟩
 | .load 1 false,[x]=>⟨fun _ _ t l hp k=>ì (x.un t l) hp fun v=>k v hp⟩
 | .load n true,[x]=>⟨fun _ _ t l hp k=>aaV n true (x.un t l) hp fun v=>k v hp⟩
 |o,as=>⟨fun call base t l hp k=>VI call base o kk (xm as t l) hp k⟩
def Qj (o:O)(kk:Nat)(as:List Op1)(call:aw)(base:Nat)(t l:Tm)(hp:List Ob)(k:KV):(opK o kk as).un call base t l hp k=VI call base o kk (xm as t l) hp k:=by
 unfold opK;split<;>first
  |rfl
  |(
    show _=VI call base (.load _ true) kk [_] hp k;unfold VI;simp)
def ta (σ:LN):List A->List Op1
 |[]=>[]
 |a::r=>ML σ a::ta σ r
def vU (t l:Tm):∀as,xm (ta (fy l) as) t l=uV (k9 l t) as
 |[]=>rfl
 |a::r=>by
  show(ML (fy l) a).un t l::xm (ta (fy l) r) t l=ϩ (k9 l t) a::uV (k9 l t) r;rw[zC,vU t l r]
def opX (σ:LN)(x:eP):Bx (aw->Nat->Tm->Tm->List Ob->KV->R):=
 match x.gd with
 |none=>opK x.op x.k (ta σ x.as)
 |some (g,w)=>⟨fun call base t l hp k=>gG ((ML σ (.t g)).un t l) w (fun k=>(opK x.op x.k (ta σ x.as)).un call base t l hp k) hp k⟩
def Ĉ (x:eP)(call:aw)(base:Nat)(t l:Tm)(hp:List Ob)(k:KV):(opX (fy l) x).un call base t l hp k=gdO x.gd (k9 l t) (fun k=>VI call base x.op x.k (uV (k9 l t) x.as) hp k) hp k:=by
 unfold opX gdO;cases h:x.gd with
 |none=>simp only[Qj,vU]
 |some p=>
  simp only[Qj,vU,zC];rfl
def Ql (σ:LN):LN->Bx (Tm->Tm->Tm)
 |[]=>⟨fun _ _=> .nil⟩
 |s::r=>⟨fun t l=> .cons s ((ML σ (.t s)).un t l) ((Ql σ r).un t l)⟩
def HT (t l:Tm):∀out,(Ql (fy l) out).un t l=lY out (k9 l t)
 |[]=>rfl
 |s::r=>by
  show Tm.cons s ((ML (fy l) (.t s)).un t l) ((Ql (fy l) r).un t l)=_;rw[zC,HT t l r];rfl
def Wc (out:LN):LN->List eP->Bx (aw->Nat->Tm->Tm->List Ob->K->R)
 |σ,[]=>⟨fun _ _ t l hp k=>k ((Ql σ out).un t l) hp⟩
 |σ,x::r=>match x.dst with
  |some d=>⟨fun call base t l hp k=>(opX σ x).un call base t l hp fun v hp=>(Wc out (d::σ) r).un call base t (.cons d v l) hp k⟩
  |none=>⟨fun call base t l hp k=>(opX σ x).un call base t l hp fun _ hp=>(Wc out σ r).un call base t l hp k⟩
def zD (out:LN)(call:aw)(base:Nat)(t:Tm)(k:K):∀(ops:List eP) (l:Tm) (hp:List Ob),(Wc out (fy l) ops).un call base t l hp k=GY call base ops (k9 l t) hp fun tm hp=>k (lY out tm) hp
 |[],l,hp=>by
  show k ((Ql (fy l) out).un t l) hp=k (lY out (k9 l t)) hp;rw[HT]
 |x::r,l,hp=>by
  have step:GY call base (x::r) (k9 l t) hp (fun tm hp=>k (lY out tm) hp)=gdO x.gd (k9 l t) (fun k=>VI call base x.op x.k (uV (k9 l t) x.as) hp k) hp fun v hp=>GY call base r (put x.dst v (k9 l t)) hp fun tm hp=>k (lY out tm) hp:=rfl
  rw[step];unfold Wc;cases hd:x.dst with
  |none=>
   simp only[Ĉ];congr 1;funext v hp;exact zD out call base t k r l hp
  |some d=>
   simp only[Ĉ];congr 1;funext v hp;exact zD out call base t k r (.cons d v l) hp
structure gy where
 rs:LN
 wl:List (Nat×Bool)
 grow:Bool
 lim:Nat
def xq (l:List (Nat×Bool)):LN:=List.rec (motive:=fun _=>LN) [] (fun p _ ih=>bif p.2 then p.1::ih else ih) l
def cC (f:gy):eC:=⟨f.rs,xq f.wl,f.grow,f.lim⟩
def xn (ids:LN)(hp:List Ob)(l:List (Nat×Ob)):List (Nat×Bool):=List.rec (motive:=fun _=>List (Nat×Bool)) [] (fun p _ ih=>(p.1,!(Bl p.1 ids&&Vq (aX hp p.1) p.2))::ih) l
def mV (ids:LN)(hp:List Ob):∀l,xq (xn ids hp l)=mU ids hp l
 |[]=>rfl
 |(i,o)::r=>by
  show(bif !(Bl i ids&&Vq (aX hp i) o)then i::xq (xn ids hp r)else xq (xn ids hp r))=_;rw[mV ids hp r];simp only[mU];grind
def ϵ (i:Nat)(l:List (Nat×Bool)):Bool:=List.rec (motive:=fun _=>Bool) false (fun p _ ih=>Bool.rec (motive:=fun _=>Bool) ih (Bool.rec (motive:=fun _=>Bool) ih true p.2) (Nat.beq p.1 i)) l
def Sx (i:Nat):∀l,ϵ i l=(xq l).contains i
 |[]=>rfl
 |(j,b)::r=>by
  show Bool.rec (motive:=fun _=>Bool) (ϵ i r) (Bool.rec (motive:=fun _=>Bool) (ϵ i r) true b) (Nat.beq j i)=(bif b then j::xq r else xq r).contains i;rw[Sx i r];cases b with
  |false=>cases Nat.beq j i<;>rfl
  |true=>
   simp only[cond_true,List.contains_cons];have:(i==j)=Nat.beq j i:=by rw[mε,beq_iff_eq,Nat.beq_eq];omega
   rw[this];cases Nat.beq j i<;>rfl
def WX (a:gy)(i:Nat):Bool:=Bool.rec (motive:=fun _=>Bool) (Bool.rec (motive:=fun _=>Bool) false (Nat.ble a.lim i) a.grow) true (ϵ i a.wl)
def TQ (a:gy)(i:Nat):WX a i=wr (cC a) i:=by
 unfold WX wr cC;rw[Sx];cases(xq a.wl).contains i<;>cases a.grow<;>simp
def SV (a:gy)(l:LN):Bool:=List.rec (motive:=fun _=>Bool) true (fun i _ ih=>Bool.rec (motive:=fun _=>Bool) ih false (WX a i)) l
def Md (a:gy):∀l,SV a l=l.all (fun i=>!wr (cC a) i)
 |[]=>rfl
 |i::r=>by
  show Bool.rec (motive:=fun _=>Bool) (SV a r) false (WX a i)=_;rw[Md a r,TQ];simp;cases wr (cC a) i<;>rfl
def BS (a:gy)(l:List (Nat×Bool)):Bool:=List.rec (motive:=fun _=>Bool) true (fun p _ ih=>Bool.rec (motive:=fun _=>Bool) ih (Bool.rec (motive:=fun _=>Bool) ih false p.2) (WX a p.1)) l
def E0 (a:gy):∀l,BS a l=(xq l).all (fun i=>!wr (cC a) i)
 |[]=>rfl
 |(i,b)::r=>by
  show Bool.rec (motive:=fun _=>Bool) (BS a r) (Bool.rec (motive:=fun _=>Bool) (BS a r) false b) (WX a i)=(bif b then i::xq r else xq r).all _;rw[E0 a r,TQ];cases b with
  |false=>cases wr (cC a) i<;>rfl
  |true=>
   simp;cases wr (cC a) i<;>rfl
def O6 (a b:gy):Bool:=
 Bool.rec (motive:=fun _=>Bool) false (Bool.rec (motive:=fun _=>Bool) false (Bool.rec (motive:=fun _=>Bool) false (Bool.rec (motive:=fun _=>Bool) false (Bool.rec (motive:=fun _=>Bool) true (Bool.rec (motive:=fun _=>Bool) true false b.grow) a.grow) (BS b a.wl)) (SV b a.rs)) (BS a b.wl)) (SV a b.rs)
def UU (a b:gy):O6 a b=mH (cC a) (cC b):=by
 unfold O6 mH;simp only[Md,E0];simp only[cC];cases b.rs.all _<;>cases(xq b.wl).all _<;>cases a.rs.all _<;>cases(xq a.wl).all _<;>cases a.grow<;>cases b.grow<;>rfl
def ny (fs:List gy):List (Nat×Nat)->Bool
 |[]=>true
 |(i,j)::r=>match fs[i]?,fs[j]? with
  |some a,some b=>Bool.rec (motive:=fun _=>Bool) false (ny fs r) (O6 a b)
  |_,_=>false
def oH (fs:List gy):∀ps,ny fs ps=fV (fs.map cC) ps
 |[]=>rfl
 |(i,j)::r=>by
  simp only[ny,fV,mζ,oH fs r];cases fs[i]? with
  |none=>rfl
  |some a=>
   cases fs[j]? with
   |none=>rfl
   |some b=>
    simp only[Option.map_some,UU];cases mH (cC a) (cC b)<;>rfl
abbrev KL:=D->List Ob->gy->R
def Pg (call:aw)(f:Nat)(raw:Bool)(vs:List D)(hp:List Ob)(k:KL):R:=
 forceNs (fW hp bi (eL vs []) []) fun ids=>
  forceDs (gC (kQ ids) (Bool.rec (motive:=fun _=>List D) (vs.map norm) vs raw)) fun args=>forceHb (pd ids hp) fun hp'=>
   caseO (call f args hp') none fun ro=>Prod.rec (motive:=fun _=>R) (fun r out=>sU (Nat.ble ids.length out.length)
    (jF (jb (back ids.length hp.length ids out.length) r) fun v=>forceHb (pC (back ids.length hp.length ids out.length) out) fun out'=>
     forceHb (grow (ar hp (ids.zip out')) (out'.drop ids.length)) fun hp2=>k v hp2 ⟨ids,xn ids hp (ids.zip out'),!(out'.drop ids.length).isEmpty,hp.length⟩) none) ro
variable {q:KF}
def U5 (call:aw)(f:Nat)(raw:Bool)(vs:List D)(hp:List Ob){k:KL}(h:∀v hp f,k v hp f=q v hp (cC f)):Pg call f raw vs hp k=Eu call f raw vs hp q:=by
 unfold Pg Eu;simp only[h,cC,mV]
def Pf (call:aw)(f:Nat)(raw:Bool)(vs:List D)(hp:List Ob)(k:KL):R:=
 Er call f raw vs hp (Pg call f raw vs hp k) fun v=>k v hp ⟨[],[],false,hp.length⟩
def U4 (call:aw)(f:Nat)(raw:Bool)(vs:List D)(hp:List Ob){k:KL}(h:∀v hp f,k v hp f=q v hp (cC f)):Pf call f raw vs hp k=Kw call f raw vs hp q:=by
 unfold Pf Kw;rw[U5 _ _ _ _ _ h];simp only[h];rfl
def So (call:aw)(base:Nat)(o:O)(kk:Nat)(vs:List D)(hp:List Ob)(k:KL):R:=
 bif !(ed o)||dq (aX hp (base+kk))then
  match rD call base o kk vs (bM o vs hp) ((bM o vs hp).map (aX hp)) hp.length with
  |none=>none
  |some (v,ups,new)=>k v (grow (ar hp ups) new) ⟨bif ed o then(base+kk)::bM o vs hp else bM o vs hp,xn (bM o vs hp) hp ups,!new.isEmpty,hp.length⟩
 else none
def Ì (call:aw)(base:Nat)(o:O)(kk:Nat)(vs:List D)(hp:List Ob){k:KL}(h:∀v hp f,k v hp f=q v hp (cC f)):So call base o kk vs hp k=GM call base o kk vs hp q:=by
 unfold So GM;cases !(ed o)||dq (aX hp (base+kk))with
 |false=>rfl
 |true=>
  cases rD call base o kk vs (bM o vs hp) ((bM o vs hp).map (aX hp)) hp.length with
  |none=>rfl
  |some e=>
   simp only[h,cC,mV]
def V9 (o:O)(kk:Nat)(as:List Op1):Bx (aw->Nat->Tm->Tm->List Ob->KL->R):=
 match o with
 | .call f raw=>⟨fun call _ t l hp k=>Pf call f raw (xm as t l) hp k⟩
 |o=>match nS o with
  |true=>⟨fun call base t l hp k=>(opK o kk as).un call base t l hp fun v hp'=>k v hp' ⟨bM o (xm as t l) hp,[],false,hp.length⟩⟩
  |false=>⟨fun call base t l hp k=>So call base o kk (xm as t l) hp k⟩
def Qi {o:O}(hs:nS o=true)(kk:Nat)(as:List Op1):V9 o kk as=⟨fun call base t l hp k=>(opK o kk as).un call base t l hp fun v hp'=>k v hp' ⟨bM o (xm as t l) hp,[],false,hp.length⟩⟩:=by
 cases o<;>first
  |rfl
  |(cases hs;done)
  |rfl
def PL {call:aw}{base kk:Nat}{o:O}{vs:List D}{hp:List Ob}(hs:nS o=true):Bq call base o kk vs hp q=VI call base o kk vs hp fun v hp'=>q v hp' (aaQ o vs hp):=by
 cases o<;>first
  |rfl
  |(cases hs;done)
  |rfl
def Wa {o:O}(hs:nS o=false)(hc:∀f raw,o≠ .call f raw)(kk:Nat)(as:List Op1):V9 o kk as=⟨fun call base t l hp k=>So call base o kk (xm as t l) hp k⟩:=by
 cases o<;>first
  |rfl
  |grind
  |rfl
  |(simp only[V9,hs])
def VJ {call:aw}{base kk:Nat}{o:O}{vs:List D}{hp:List Ob}(hs:nS o=false)(hc:∀f raw,o≠ .call f raw):Bq call base o kk vs hp q=GM call base o kk vs hp q:=by
 cases o<;>first
  |rfl
  |grind
  |rfl
  |(simp only[Bq,hs])
def S0 (o:O)(kk:Nat)(as:List Op1)(call:aw)(base:Nat)(t l:Tm)(hp:List Ob){k:KL}(h:∀v hp f,k v hp f=q v hp (cC f)):(V9 o kk as).un call base t l hp k=Bq call base o kk (xm as t l) hp q:=by
 by_cases hc:∃f raw,o= .call f raw
 ·obtain⟨f,raw,rfl⟩:=hc;exact U4 _ _ _ _ _ h
 ·have hc:∀f raw,o≠ .call f raw:=fun f raw e=>hc ⟨f,raw,e⟩
  cases hs:nS o with
  |true=>
   rw[Qi hs,PL hs];rw[Qj];congr 1;funext v hp';exact h _ _ _
  |false=>
   rw[Wa hs hc,VJ hs hc];exact Ì _ _ _ _ _ _ h
def C_ (σ:LN)(x:eP):Bx (aw->Nat->Tm->Tm->List Ob->KL->R):=
 match x.gd with
 |none=>V9 x.op x.k (ta σ x.as)
 |some (g,w)=>⟨fun call base t l hp k=>GT ((ML σ (.t g)).un t l) w ((V9 x.op x.k (ta σ x.as)).un call base t l hp k) (k (.tup []) hp ⟨[],[],false,0⟩)⟩
def S4 (x:eP)(call:aw)(base:Nat)(t l:Tm)(hp:List Ob){k:KL}(hk:∀v hp f,k v hp f=q v hp (cC f)):(C_ (fy l) x).un call base t l hp k=gdF x.gd (k9 l t) (fun k=>Bq call base x.op x.k (uV (k9 l t) x.as) hp k) hp q:=by
 unfold C_ gdF;cases h:x.gd with
 |none=>simp only[S0 _ _ _ _ _ _ _ _ hk,vU]
 |some p=>
  simp only[S0 _ _ _ _ _ _ _ _ hk,vU,zC,hk];rfl
def MM (out:LN):LN->List eP->Bx (aw->Nat->Tm->Tm->List Ob->List gy->(Tm->List Ob->List gy->R)->R)
 |σ,[]=>⟨fun _ _ t l hp fs k=>k ((Ql σ out).un t l) hp fs.reverse⟩
 |σ,x::r=>match x.dst with
  |some d=>⟨fun call base t l hp fs k=>(C_ σ x).un call base t l hp fun v hp f=>(MM out (d::σ) r).un call base t (.cons d v l) hp (f::fs) k⟩
  |none=>⟨fun call base t l hp fs k=>(C_ σ x).un call base t l hp fun _ hp f=>(MM out σ r).un call base t l hp (f::fs) k⟩
def B0 (out:LN)(call:aw)(base:Nat)(t:Tm){k:Tm->List Ob->List gy->R}{q:Tm->List Ob->List eC->R}(hk:∀tm hp fs,k tm hp fs=q tm hp (fs.map cC)):∀(ops:List eP) (l:Tm) (hp:List Ob) (fs:List gy),(MM out (fy l) ops).un call base t l hp fs k=uM call base ops (k9 l t) hp (fs.map cC) fun tm hp fs=>q (lY out tm) hp fs
 |[],l,hp,fs=>by
  show k ((Ql (fy l) out).un t l) hp fs.reverse=q (lY out (k9 l t)) hp (fs.map cC).reverse;rw[HT,hk,List.map_reverse]
 |x::r,l,hp,fs=>by
  have step:uM call base (x::r) (k9 l t) hp (fs.map cC) (fun tm hp fs=>q (lY out tm) hp fs)=gdF x.gd (k9 l t) (fun k=>Bq call base x.op x.k (uV (k9 l t) x.as) hp k) hp fun v hp f=>uM call base r (put x.dst v (k9 l t)) hp (f::fs.map cC) fun tm hp fs=>q (lY out tm) hp fs:=rfl
  rw[step];unfold MM;cases hd:x.dst with
  |none=>
   exact S4 _ _ _ _ _ _ fun v hp f=>B0 out call base t hk r l hp (f::fs)
  |some d=>
   exact S4 _ _ _ _ _ _ fun v hp f=>B0 out call base t hk r (.cons d v l) hp (f::fs)
def aem (nal:Nat)(ops:List eP)(prs:Option (List (Nat×Nat)))(out:LN):Bx Sem:=
 match prs with
 |none=>match nal with
  |0=>⟨fun c _ _ tm hp kn _ _=>(Wc out [] ops).un c hp.length tm .nil hp kn⟩
  |n+1=>⟨fun c _ _ tm hp kn _ _=>(Wc out [] ops).un c hp.length tm .nil (uF (n+1) hp) kn⟩
 |some ps=>⟨fun c _ _ tm hp kn _ _=>(MM out [] ops).un c hp.length tm .nil (uF nal hp) [] fun tm hp fs=>sU (ny fs ps) (kn tm hp) none⟩
def M_ (nal:Nat)(ops:List eP)(prs:Option (List (Nat×Nat)))(out:LN):(aem nal ops prs out).un=aen nal ops prs out:=by
 funext c n m tm hp kn ke kr
 cases prs with
 |none=>
  cases nal with
  |zero=>exact zD out c hp.length tm kn ops .nil hp
  |succ k=>exact zD out c hp.length tm kn ops .nil (uF (k+1) hp)
 |some ps=>exact B0 out c hp.length tm (q:=fun tm hp fs=>sU (fV fs ps) (kn tm hp) none) (fun tm hp fs=>by rw[oH]) ops .nil (uF nal hp) []
def qw:Co->Bx Sem
 | .skip=>⟨aa2⟩
 | .reg nal ops prs out=>aem nal ops prs out
 | .seq a b=>⟨fun c n m tm hp kn ke kr=>(qw a).un c n m tm hp (fun tm hp=>(qw b).un c n m tm hp kn ke kr) ke kr⟩
 | .cond x t e=>⟨fun c n m tm hp kn ke kr=>RR (ϩ tm x) ((qw t).un c n m tm hp kn ke kr) ((qw e).un c n m tm hp kn ke kr)⟩
 | .block id b=>⟨fun c n m tm hp kn ke kr=>(qw b).un c n m tm hp kn (fun i tm hp=>sU (Nat.beq i id) (kn tm hp) (ke i tm hp)) kr⟩
 | .loop live b=>⟨fun c n m tm hp _ ke kr=>EQ m live (fun tm hp k=>(qw b).un c n m tm hp k ke kr) n tm hp⟩
 | .exit id=>⟨aaO id⟩
 | .ret=>⟨aep⟩
 | .gh g b=>⟨fun c n m tm hp kn ke kr=>ghK m g tm hp fun tm hp=>(qw b).un c n m tm hp kn ke kr⟩
def lg:∀c:Co,(qw c).un=ZL c
 | .skip=>rfl
 | .reg nal ops prs out=>M_ nal ops prs out
 | .seq a b=>by
  show(fun(c:aw) (n m:Nat) (tm:Tm) (hp:List Ob) (kn:K) (ke:Nat->K) (kr:K)=>(qw a).un c n m tm hp (fun tm hp=>(qw b).un c n m tm hp kn ke kr) ke kr)=_;rw[lg a,lg b];rfl
 | .cond x t e=>by
  show(fun(c:aw) (n m:Nat) (tm:Tm) (hp:List Ob) (kn:K) (ke:Nat->K) (kr:K)=>RR (ϩ tm x) ((qw t).un c n m tm hp kn ke kr) ((qw e).un c n m tm hp kn ke kr))=_;rw[lg t,lg e];rfl
 | .block id b=>by
  show(fun(c:aw) (n m:Nat) (tm:Tm) (hp:List Ob) (kn:K) (ke:Nat->K) (kr:K)=>(qw b).un c n m tm hp kn (fun i tm hp=>sU (Nat.beq i id) (kn tm hp) (ke i tm hp)) kr)=_;rw[lg b];rfl
 | .loop live b=>by
  show(fun(c:aw) (n m:Nat) (tm:Tm) (hp:List Ob) (_:K) (ke:Nat->K) (kr:K)=>EQ m live (fun tm hp k=>(qw b).un c n m tm hp k ke kr) n tm hp)=_;rw[lg b];rfl
 | .exit _=>rfl
 | .ret=>rfl
 | .gh g b=>by
  show(fun(c:aw) (n m:Nat) (tm:Tm) (hp:List Ob) (kn:K) (ke:Nat->K) (kr:K)=>ghK m g tm hp fun tm hp=>(qw b).un c n m tm hp kn ke kr)=_;rw[lg b];rfl
def adZ:Option Fn->Option Hn
 |some (.code x)=>some (.code (qw x.body).un x.res x.fz)
 |some (.prim g)=>some (.prim g)
 |some (.both g x)=>some (.both g (qw x.body).un x.res x.fz)
 |some (.any g)=>some (.any g)
 |none=>none
def VF (o:Option Fn):same (adZ o) o:=by
 cases o with
 |none=>trivial
 |some x=>cases x with
  |code x=>exact⟨(lg _).symm,rfl,rfl⟩
  |prim g=>rfl
  |both g x=>exact⟨rfl,(lg _).symm,rfl,rfl⟩
  |any g=>rfl
def aa6 (P:Program)(G:bV)(s:Rg)(f:Nat):Option Hn:=adZ (Ī P G s f)
def WR (P:Program)(G:bV)(s:Rg)(f:Nat):same (aa6 P G s f) (Ī P G s f):=VF _
end
end Go.Ab
