import Derived.Test.YtlfhmmbmjkadiaaGreatDoorAm0
import Derived.Test.YtlfhmmbmjkadiaaGreatDoorAm2
import Derived.Lib.ItoaNum
import Derived.KernelRfl
set_option linter.all false
section
namespace Go.Ab
open Go
abbrev R:=Option (D×List Ob)
abbrev K:=Tm→List Ob→R
abbrev KV:=D→List Ob→R
noncomputable section
def rX (tm:Tm)(t:Nat):D:=
 Tm.rec (motive:=fun _=>D) .junk (fun s d _ ih=>Bool.rec (motive:=fun _=>D) ih d (Nat.beq s t)) tm
theorem hT (t:Nat):∀tm,rX tm t=get tm t
 | .nil=>rfl
 | .cons s d r=>by
  show Bool.rec (motive:=fun _=>D) (rX r t) d (Nat.beq s t)=bif Nat.beq s t then d else get r t
  rw[hT t r];cases Nat.beq s t<;>rfl
def evA (tm:Tm)(a:A):D:=
 A.rec (motive:=fun _=>D) (fun n=>rX tm n) (fun x=> .p x) (fun z=> .sl .nil z []) (fun g=> .p (.fn g [])) (fun x=> .ip x 0) a
theorem Y2 (tm:Tm)(a:A):evA tm a=ev tm a:=by
 cases a
 ·exact hT _ tm
 all_goals rfl
def gO (d:D)(e:R)(k:Da→R):R:=
 D.rec (motive_1:=fun _=>R) (motive_2:=fun _=>PUnit.{1})
  (fun x=>k x) (fun _ _=>e) (fun _ _=>e) (fun _ _=>e) (fun _ _ _=>e) (fun _ _=>e) (fun _ _ _ _=>e) (fun _ _ _=>e) (fun _=>e) (fun _ _ _=>e) (fun _ _ _=>e) e ⟨⟩ (fun _ _ _ _=>⟨⟩) d
def wB (x:Da)(e:R)(k:IntKind→Int→R):R:=
 Da.rec (motive_1:=fun _=>R) (motive_2:=fun _=>PUnit.{1})
  (fun _=>e) (fun i n=>k i n) (fun _=>e) (fun _ _=>e) (fun _ _ _=>e) e (fun _ _=>e) (fun _ _ _ _=>e) e (fun _ _ _=>e) e (fun _ _ _=>e) e (fun _ _ _=>e) (fun _ _=>e) ⟨⟩ (fun _ _ _ _=>⟨⟩) x
def wA (x:Da)(e:R)(t f:R):R:=
 Da.rec (motive_1:=fun _=>R) (motive_2:=fun _=>PUnit.{1})
  (fun b=>Bool.rec (motive:=fun _=>R) f t b) (fun _ _=>e) (fun _=>e) (fun _ _=>e) (fun _ _ _=>e) e (fun _ _=>e) (fun _ _ _ _=>e) e (fun _ _ _=>e) e (fun _ _ _=>e) e (fun _ _ _=>e) (fun _ _=>e) ⟨⟩ (fun _ _ _ _=>⟨⟩) x
def qk (x:Da)(e:R)(k:List Nat→R):R:=
 Da.rec (motive_1:=fun _=>R) (motive_2:=fun _=>PUnit.{1})
  (fun _=>e) (fun _ _=>e) (fun s=>k s) (fun _ _=>e) (fun _ _ _=>e) e (fun _ _=>e) (fun _ _ _ _=>e) e (fun _ _ _=>e) e (fun _ _ _=>e) e (fun _ _ _=>e) (fun _ _=>e) ⟨⟩ (fun _ _ _ _=>⟨⟩) x
def jV (x:Da)(e:R)(k:Nat→List Da→R):R:=
 Da.rec (motive_1:=fun _=>R) (motive_2:=fun _=>PUnit.{1})
  (fun _=>e) (fun _ _=>e) (fun _=>e) (fun _ _=>e) (fun z es _=>k z es) e (fun _ _=>e) (fun _ _ _ _=>e) e (fun _ _ _=>e) e (fun _ _ _=>e) e (fun z es _=>k z es) (fun _ _=>e) ⟨⟩ (fun _ _ _ _=>⟨⟩) x
def caseO {α:Type}(o:Option α)(e:R)(k:α→R):R:=Option.rec (motive:=fun _=>R) e (fun x=>k x) o
def vI (b:Bool)(t e:R):R:=Bool.rec (motive:=fun _=>R) e t b
theorem ig (b:Bool)(t e:R):vI b t e=bif b then t else e:=by cases b<;>rfl
def bK (b:Bool)(k:D→R):R:=Bool.rec (motive:=fun _=>R) (k (.p (.bool false))) (k (.p (.bool true))) b
theorem adt (b:Bool)(k:D→R):bK b k=k (.p (.bool b)):=by cases b<;>rfl
def dA (call:aJ)(base:Nat)(o:O)(kk:Nat)(vs:List D)(hp:List Ob)(k:KV):R:=
 bif !(cX o)||cO (aZ hp (base+kk))then
  match qf call base o kk vs (bM o vs hp) ((bM o vs hp).map (aZ hp)) hp.length with
  |none=>none
  |some (v,ups,new)=>k v (grow (az hp ups) new)
 else none
def kc (k:IntKind):Nat:=IntKind.rec (motive:=fun _=>Nat) 0 1 2 3 4 5 6 7 k
theorem Zp:∀i j:IntKind,Nat.beq (kc i) (kc j)=decide (i=j):=by
 intro i j;cases i<;>cases j<;>rfl
def iw (n:Int)(p q:Nat→R):R:=Int.rec (motive:=fun _=>R) (fun m=>p m) (fun m=>q m) n
def eqK (m n:Int)(k:Bool→R):R:=
 iw m (fun a=>iw n (fun b=>k (Nat.beq a b)) fun _=>k false) fun a=>iw n (fun _=>k false) fun b=>k (Nat.beq a b)
theorem afe (m n:Int)(k:Bool→R):eqK m n k=k (aw m n):=by cases m<;>cases n<;>rfl
def ltK (m n:Int)(k:Bool→R):R:=
 iw m (fun a=>iw n (fun b=>k (Nat.blt a b)) fun _=>k false) fun a=>iw n (fun _=>k true) fun b=>k (Nat.blt b a)
theorem afG (m n:Int)(k:Bool→R):ltK m n k=k (aW m n):=by cases m<;>cases n<;>rfl
def lim (i:IntKind):Nat:=IntKind.rec (motive:=fun _=>Nat) 0 0 2147483648 9223372036854775808 256 0 4294967296 18446744073709551616 i
def ZP (i:IntKind)(m:Nat)(k:D→R):R:=vI (Nat.blt m (lim i)) (k (.p (.int i (.ofNat m)))) (k (.p (.int i (ag i (.ofNat m)))))
theorem RT (i:IntKind)(m:Nat)(h:Nat.blt m (lim i)=true):ag i (.ofNat m)= .ofNat m:=by
 cases i<;>simp only[lim]at h;case i8=>exact absurd (Nat.ble_eq.mp h) (by omega)
 case i16=>exact absurd (Nat.ble_eq.mp h) (by omega)
 case u16=>exact absurd (Nat.ble_eq.mp h) (by omega)
 all_goals simp only[ag,h,cond_true]
theorem acD (i:IntKind)(m:Nat)(k:D→R):ZP i m k=k (.p (.int i (ag i (.ofNat m)))):=by
 unfold ZP;rw[ig];cases h:Nat.blt m (lim i)
 ·rfl
 ·rw[RT i m h];rfl
def tI (o:Option Da)(k:D→R):R:=caseO o none fun x=>k (.p x)
def nbK (b:Bool)(k:D→R):R:=Bool.rec (motive:=fun _=>R) (k (.p (.bool true))) (k (.p (.bool false))) b
theorem ZQ (b:Bool)(k:D→R):nbK b k=k (.p (.bool (!b))):=by cases b<;>rfl
def aes (op:BinOp)(i:IntKind)(m n:Int)(e:R)(k:D→R):R:=
 BinOp.rec (motive:=fun _=>R)
  (iw m (fun a=>iw n (fun b=>ZP i (Nat.add a b) k) fun _=>e) fun _=>e)
  (iw m (fun a=>iw n (fun b=>vI (Nat.ble b a) (ZP i (Nat.sub a b) k) e) fun _=>e) fun _=>e)
  (iw m (fun a=>iw n (fun b=>ZP i (Nat.mul a b) k) fun _=>e) fun _=>e)
  e e e e e e e e
  (eqK m n fun b=>bK b k) (eqK m n fun b=>nbK b k) (ltK m n fun b=>bK b k) (ltK n m fun b=>nbK b k) (ltK n m fun b=>bK b k) (ltK m n fun b=>nbK b k) op
theorem aa6 (op:BinOp)(i:IntKind)(m n:Int)(k:D→R):aes op i m n (tI (bin op (.p (.int i m)) (.p (.int i n))) k) k=tI (bin op (.p (.int i m)) (.p (.int i n))) k:=by
 cases op<;>simp only[aes,afe,afG,adt,ZQ,acD];case add=>
  cases m<;>cases n<;>try rfl
  simp[iw,bin,eL,mz,tI,caseO]
 case sub=>
  cases m<;>cases n<;>try rfl
  rename_i a b;simp only[iw,ig];cases h:Nat.ble b a
  ·rfl
  ·have hle:=Nat.le_of_ble_eq_true h;simp only[cond_true,bin,eL,cond_false,mz,tI,caseO,if_true];congr 4;exact Int.ofNat_sub hle
 case mul=>
  cases m<;>cases n<;>try rfl
  simp[iw,bin,eL,mz,tI,caseO]
 all_goals simp[bin,eL,mz,tI,caseO,bu]
def QM (a:List Nat):List Nat→Bool:=
 List.rec (motive:=fun _=>List Nat→Bool) (fun b=>List.rec (motive:=fun _=>Bool) true (fun _ _ _=>false) b)
  (fun x _ ih b=>List.rec (motive:=fun _=>Bool) false (fun y r _=>Bool.rec (motive:=fun _=>Bool) false (ih r) (Nat.beq x y)) b) a
theorem Jd:∀a b,QM a b=aK a b
 |[],[]=>rfl
 |[],_::_=>rfl
 |_::_,[]=>rfl
 |x::a,y::b=>by
  show Bool.rec (motive:=fun _=>Bool) false (QM a b) (Nat.beq x y)=bif Nat.beq x y then aK a b else false
  rw[Jd a b];cases Nat.beq x y<;>rfl
def agv (op:BinOp)(a b:List Nat)(e:R)(k:D→R):R:=
 BinOp.rec (motive:=fun _=>R) e e e e e e e e e e e (bK (QM a b) k) (nbK (QM a b) k) e e e e op
theorem acV (op:BinOp)(a b:List Nat)(k:D→R):agv op a b (tI (bin op (.p (.str a)) (.p (.str b))) k) k=tI (bin op (.p (.str a)) (.p (.str b))) k:=by
 cases op<;>simp only[agv,adt,ZQ,Jd]<;>simp[bin,uX,tI,caseO]
def aa3 (op:BinOp)(x y:D)(k:D→R):R:=
 gO x none fun a=>Da.rec (motive_1:=fun _=>R) (motive_2:=fun _=>PUnit.{1})
  (fun _=>none) (fun i m=>gO y none fun b=>wB b (tI (bin op x y) k) fun j n=>vI (Nat.beq (kc i) (kc j)) (aes op i m n (tI (bin op x y) k) k) (tI (bin op x y) k))
  (fun s=>gO y none fun b=>qk b none fun t=>agv op s t (tI (bin op x y) k) k)
  (fun _ _=>none) (fun _ _ _=>none) none (fun _ _=>none) (fun _ _ _ _=>none) none (fun _ _ _=>none) none (fun _ _ _=>none) none (fun _ _ _=>none) (fun _ _=>tI (bin op x y) k) ⟨⟩ (fun _ _ _ _=>⟨⟩) a
theorem UM (op:BinOp)(a:Da)(y:D)(h:HS a=none)(hs:∀s,a≠ .str s):bin op (.p a) y=none:=by
 cases y<;>try (cases a<;>rfl)
 rename_i b;cases a<;>simp only[HS,reduceCtorEq]at h<;>first
  |rfl
  |exact absurd rfl (hs _)
theorem aa4 (op:BinOp)(x y:D)(k:D→R):aa3 op x y k=tI (bin op x y) k:=by
 cases x<;>try rfl
 rename_i a;cases a;case int i m=>
  cases y<;>try rfl
  rename_i b;cases b<;>try rfl
  rename_i j n;show vI (Nat.beq (kc i) (kc j)) _ _=_;rw[Zp,ig];by_cases h:i=j
  ·subst h;simp only[decide_true,cond_true];exact aa6 op i m n k
  ·simp[h]
 case str s=>
  cases y<;>try rfl
  rename_i b;cases b<;>try rfl
  exact acV op s _ k
 case sym i s=>rfl
 all_goals (rw[UM op _ y rfl (by intro s h;cases h)];rfl)
def Z3 (c a b:D)(k:D→R):R:=gO c none fun x=>wA x none (k a) (k b)
def afN (d:D)(k:D→R):R:=gO d none fun x=>wA x none (k (.p (.bool false))) (k (.p (.bool true)))
def N1 {α:Type}(l:List α)(i:Nat)(k:α→R):R:=
 List.rec (motive:=fun _=>Nat→R) (fun _=>none) (fun x _ ih i=>Nat.rec (motive:=fun _=>R) (k x) (fun i _=>ih i) i) l i
theorem xn {α:Type}(k:α→R):∀(l:List α) (i:Nat),N1 l i k=caseO l[i]? none k
 |[],i=>by simp[N1,caseO]
 |x::r,0=>rfl
 |x::r,i+1=>by
  show N1 r i k=_;rw[xn k r i];simp
def tl {α:Type}(l:List α):List α:=List.rec (motive:=fun _=>List α) [] (fun _ t _=>t) l
def tl4 {α:Type}(l:List α):List α:=tl (tl (tl (tl l)))
def ac0 {α:Type}(l:List α):List α:=tl4 (tl4 (tl4 (tl4 l)))
def Sm {α:Type}(l:List α)(j:Nat):List α:=Nat.rec (motive:=fun _=>List α) l (fun _ ih=>ac0 ih) j
theorem aam {α:Type}(l:List α):tl l=l.drop 1:=by cases l<;>rfl
theorem ac1 {α:Type}(l:List α):ac0 l=l.drop 16:=by
 simp only[ac0,tl4,aam,qζ]
theorem DS {α:Type}(l:List α):∀j,Sm l j=l.drop (16*j)
 |0=>rfl
 |j+1=>by
  show ac0 (Sm l j)=_;rw[ac1,DS l j,qζ];congr 1
def aca {α:Type}(l:List α)(i:Nat)(k:α→R):R:=N1 (Sm l (Nat.div i 16)) (Nat.mod i 16) k
theorem SG {α:Type}(l:List α)(i:Nat)(k:α→R):aca l i k=caseO l[i]? none k:=by
 unfold aca;rw[xn,DS,List.getElem?_drop];congr 2;exact Nat.div_add_mod i 16
def atK (es:List Da)(i:Int)(k:Da→R):R:=iw i (fun j=>aca es j k) fun _=>none
theorem aep (es:List Da)(i:Int)(k:Da→R):atK es i k=caseO (bw es i) none k:=by
 cases i with
 |ofNat j=>exact SG es j k
 |negSucc j=>rfl
def iaK (esz:Nat)(x i:D)(e:R)(k:D→R):R:=
 gO x e fun x=>jV x none fun z es=>gO i none fun i=>wB i none fun _ i=>vI (Nat.beq z esz) (atK es i fun y=>k (.ip y 0)) none
def ixK (x i:D)(k:D→R):R:=
 gO x none fun x=>qk x none fun s=>gO i none fun i=>wB i none fun _ i=>iw i (fun j=>aca s j fun b=>k (.p (.int .u8 (Int.ofNat b)))) fun _=>none
def faK (off:Nat)(d:D)(e:R)(k:D→R):R:=
 D.rec (motive_1:=fun _=>R) (motive_2:=fun _=>PUnit.{1})
  (fun _=>e) (fun _ _=>none) (fun _ _=>none) (fun id o=>k (.box id (o+off))) (fun id i o=>k (.el id i (o+off))) (fun x o=>k (.ip x (o+off)))
  (fun _ _ _ _=>none) (fun _ _ _=>none) (fun _=>none) (fun _ _ _=>none) (fun _ _ _=>none) none ⟨⟩ (fun _ _ _ _=>⟨⟩) d
def ZU (d:D)(e:R)(k:D→R):R:=
 D.rec (motive_1:=fun _=>R) (motive_2:=fun _=>PUnit.{1})
  (fun _=>e) (fun _ _=>none) (fun _ _=>none) (fun _ _=>k d) (fun _ _ _=>k d) (fun _ _=>k d)
  (fun _ _ _ _=>none) (fun _ _ _=>none) (fun _=>none) (fun _ _ _=>k d) (fun _ _ _=>k d) none ⟨⟩ (fun _ _ _ _=>⟨⟩) d
def nV (o:Ob)(e:R)(k:List D→R):R:=
 Ob.rec (motive:=fun _=>R) (fun cs=>k cs) (fun _=>e) (fun _=>e) (fun _ _=>e) (fun _ _=>e) e e (fun _ _=>e) o
def JY (d:D)(hp:List Ob)(e:R)(k:D→R):R:=
 D.rec (motive_1:=fun _=>R) (motive_2:=fun _=>PUnit.{1})
  (fun _=>e) (fun _ _=>none) (fun _ _=>none)
  (fun id off=>N1 hp id fun o=>nV o none fun cs=>N1 cs off k)
  (fun _ _ _=>e)
  (fun x off=>N1 (cells x) off fun x=>k (.p x))
  (fun _ _ _ _=>none) (fun _ _ _=>none) (fun _=>none) (fun _ _ _=>none) (fun _ _ _=>none) none ⟨⟩ (fun _ _ _ _=>⟨⟩) d
def ab1 (i:Nat)(d:D)(k:D→R):R:=
 D.rec (motive_1:=fun _=>R) (motive_2:=fun _=>PUnit.{1})
  (fun _=>none) (fun _ _=>none) (fun ds _=>N1 ds i k) (fun _ _=>none) (fun _ _ _=>none) (fun _ _=>none)
  (fun _ _ _ _=>none) (fun _ _ _=>none) (fun _=>none) (fun _ _ _=>none) (fun _ _ _=>none) none ⟨⟩ (fun _ _ _ _=>⟨⟩) d
def NK {α:Type}(l:List α):Nat:=List.rec (motive:=fun _=>Nat) 0 (fun _ _ ih=>Nat.succ ih) l
theorem nY {α:Type}:∀l:List α,NK l=l.length
 |[]=>rfl
 |_::r=>congrArg Nat.succ (nY r)
def Ag (d:D)(k:Nat→R):R:=
 D.rec (motive_1:=fun _=>R) (motive_2:=fun _=>PUnit.{1})
  (fun x=>jV x none fun _ es=>k (NK es)) (fun _ _=>none) (fun _ _=>none) (fun _ _=>none) (fun _ _ _=>none) (fun _ _=>none) (fun _ _ len _=>k len) (fun _ _ es=>k (NK es)) (fun _=>none) (fun _ _ _=>none) (fun _ _ _=>none) none ⟨⟩ (fun _ _ _ _=>⟨⟩) d
theorem VY (d:D)(k:Nat→R):Ag d k=caseO (xQ d) none k:=by
 cases d<;>try rfl
 ·rename_i x;cases x<;>try rfl
  ·simp only[Ag,gO,jV,nY,xQ,caseO]
  ·simp only[Ag,gO,jV,nY,xQ,caseO]
 ·simp only[Ag,nY,xQ,caseO]
def aco (n:Nat)(k:D→R):R:=Nat.rec (motive:=fun _=>R) (k (.p (.int .i64 (.ofNat 0)))) (fun m _=>k (.p (.int .i64 (.ofNat (Nat.succ m))))) n
theorem SM (n:Nat)(k:D→R):aco n k=k (.p (Ls n)):=by cases n<;>rfl
def afC (kd:Nat)(d:D)(e:R)(k:D→R):R:=
 Nat.rec (motive:=fun _=>R) (gO d none fun x=>qk x none fun s=>aco (NK s) k)
  (fun j _=>Nat.rec (motive:=fun _=>R) (Ag d fun n=>aco n k) (fun _ _=>e) j) kd
theorem On {α:Type}(cs:List α)(off:Nat):sub cs off 1=cs[off]?.map fun x=>[x]:=by
 unfold sub;cases h:Nat.ble (off+1) cs.length
 ·have:cs.length≤off:=by
   rcases lπ off cs.length with h1|h1
   ·rw[Nat.ble_eq.mpr h1]at h;cases h
   ·exact h1
  simp[lθ this]
 ·have h1:off<cs.length:=Nat.ble_eq.mp h;simp[lγ h1,List.take_one,List.head?_drop]
def lh (o:Option gy)(k:D→R):R:=caseO o none fun e=>k e.1
def pn:O→Bool
 | .mv=>true
 | .pick=>true
 | .build _ _=>true
 | .load _ _=>true
 | .nilck=>true
 | .bin _=>true
 | .binB _=>true
 | .binN _ _=>true
 | .binS _ _=>true
 | .un _=>true
 | .conv _=>true
 | .mkif _=>true
 | .mkfn _=>true
 | .slStr _ _=>true
 | .fa _=>true
 | .fld _ _ _=>true
 | .ia _=>true
 | .iaa _ _=>true
 | .ix=>true
 | .lkp _ _ _=>true
 | .ext _=>true
 | .len _=>true
 | .cap=>true
 | .min2=>true
 | .max2=>true
 | .same=>true
 | .assertT _ _ _=>true
 | .b2s=>true
 | .s2b=>true
 |_=>false
def Oz (o:Option gy):Prop:=∀e,o=some e→e.2=([],[])
theorem EU:Oz none:=by intro e h;cases h
theorem HH (d:D):Oz (val d):=by intro e h;cases h;rfl
theorem Rt (o:Option Da):Oz (nf o):=by cases o<;>(intro e h;cases h;try rfl)
theorem Rs (kt:TypeDesc)(z:D)(ok:Bool)(ks:List Da)(ws:List D)(k:D):Oz (ZA kt z ok ks ws k):=by
 unfold ZA;repeat' split
 all_goals first
  |exact EU
  |exact HH _
theorem AT {call:aJ}{base kk:Nat}{o:O}{vs:List D}{ids:List Nat}{obs:List Ob}{len:Nat}(h:pn o=true):Oz (qf call base o kk vs ids obs len):=by
 cases o<;>simp only[pn,Bool.false_eq_true]at h<;>
  simp only[qf,aMv,GS,uU,iu,uV,FM,RX,RY,DC,aUn,RZ,R1,Mw,Mu,qd,aFa,Mr,R0,Xa,aIx,IU,Qn,UG,W8,Mt,Ms,rF,UE,Xb]<;>
  (repeat' (first|exact EU|exact HH _|exact Rt _|exact Rs _ _ _ _ _ _|split|(simp only[cond_eq_ite])))
theorem AS {o:O}(h:pn o=true):cX o=false:=by
 cases o<;>simp_all [pn,cX]
section eqs
variable {call:aJ} {base kk:Nat} {hp:List Ob} {k:KV}
theorem ct {o:O}{vs:List D}(h:pn o=true):dA call base o kk vs hp k=lh (qf call base o kk vs (bM o vs hp) ((bM o vs hp).map (aZ hp)) hp.length) fun v=>k v hp:=by
 have hq:=AT (call:=call) (base:=base) (kk:=kk) (vs:=vs) (ids:=bM o vs hp) (obs:=(bM o vs hp).map (aZ hp)) (len:=hp.length) h;simp only[dA,AS h,Bool.not_false,Bool.true_or,cond_true];cases ha:qf call base o kk vs (bM o vs hp) ((bM o vs hp).map (aZ hp)) hp.length with
 |none=>rfl
 |some e=>
  obtain⟨v,ups,new⟩:=e;have:=hq _ ha;simp only[lε]at this;obtain⟨rfl,rfl⟩:=this;rfl
theorem Vb {o:Option Da}{k:D→R}:lh (nf o) k=tI o k:=by cases o<;>rfl
theorem aa7 (op:BinOp)(x y:D):dA call base (.bin op) kk [x,y] hp k=aa3 op x y fun v=>k v hp:=by
 rw[aa4,ct rfl];exact Vb
theorem Z6 (c a b:D):dA call base .pick kk [c,a,b] hp k=Z3 c a b fun v=>k v hp:=by
 rw[ct rfl];cases c<;>try rfl
 rename_i x;cases x<;>try rfl
 rename_i b;cases b<;>rfl
theorem acG (x:D):dA call base (.un .not) kk [x] hp k=afN x fun v=>k v hp:=by
 rw[ct rfl];cases x<;>try rfl
 rename_i x;cases x<;>try rfl
 rename_i b;cases b<;>rfl
theorem afp (esz:Nat)(x i:D):dA call base (.ia esz) kk [x,i] hp k=iaK esz x i (lh (R0 esz [x,i]) fun v=>k v hp) fun v=>k v hp:=by
 rw[ct rfl];show lh (R0 esz [x,i]) (fun v=>k v hp)=_;cases x<;>try rfl
 rename_i x;cases x<;>try rfl
 all_goals
  rename_i z es;cases i<;>try rfl
  rename_i i;cases i<;>try rfl
  rename_i q i;simp only[R0,iaK,gO,jV,wB,ig,aep];cases Nat.beq z esz
  ·rfl
  ·simp only[cond_true];cases bw es i<;>rfl
theorem afv (x i:D):dA call base .ix kk [x,i] hp k=ixK x i fun v=>k v hp:=by
 rw[ct rfl];show lh (aIx [x,i]) (fun v=>k v hp)=_;cases x<;>try rfl
 rename_i x;cases x<;>try rfl
 rename_i s;cases i<;>try rfl
 rename_i i;cases i<;>try rfl
 rename_i q i;simp only[aIx,ixK,gO,qk,wB];cases i with
 |negSucc j=>rfl
 |ofNat j=>
  simp only[iw,SG];have h:(bif bu 0 (Int.ofNat j)then s[(Int.ofNat j).toNat]? else none)=s[j]?:=rfl;rw[h];cases s[j]?<;>rfl
theorem afi (off:Nat)(x:D):dA call base (.fa off) kk [x] hp k=faK off x (lh (aFa off [x]) fun v=>k v hp) fun v=>k v hp:=by
 rw[ct rfl];cases x<;>rfl
theorem VI (x:D):dA call base .nilck kk [x] hp k=ZU x (lh (uV [x]) fun v=>k v hp) fun v=>k v hp:=by
 rw[ct rfl];cases x<;>rfl
theorem ab2 (i:Nat)(x:D):dA call base (.ext i) kk [x] hp k=ab1 i x fun v=>k v hp:=by
 rw[ct rfl];cases x<;>try rfl
 rename_i ds;show lh (Qn i [.tup ds]) (fun v=>k v hp)=_;simp only[Qn,ab1,xn];cases ds[i]?<;>rfl
theorem acp (kd:Nat)(x:D):dA call base (.len kd) kk [x] hp k=afC kd x (lh (UG kd [x] (bM (.len kd) [x] hp) ((bM (.len kd) [x] hp).map (aZ hp))) fun v=>k v hp) fun v=>k v hp:=by
 rw[ct rfl];match kd with
 |0=>
  cases x<;>try rfl
  rename_i x;cases x<;>try rfl
  simp only[afC,gO,qk,SM,nY];rfl
 |1=>
  show lh (match xQ x with|some n=>val (.p (Ls n))|none=>none) _=Ag x fun n=>aco n fun v=>k v hp
  simp only[VY,SM];cases xQ x<;>rfl
 |n+2=>rfl
theorem VA (x:D):dA call base (.load 1 false) kk [x] hp k=JY x hp (lh (iu 1 false [x] ((dids x).map (aZ hp))) fun v=>k v hp) fun v=>k v hp:=by
 rw[ct rfl];cases x<;>try rfl
 ·rename_i id off;show lh (iu 1 false [.box id off] [aZ hp id]) (fun v=>k v hp)=_;simp only[JY,xn,iu,aZ,lρ];cases hp[id]? with
  |none=>rfl
  |some o=>
   cases o<;>try rfl
   rename_i cs;simp only[Option.getD_some,On,caseO,nV];cases cs[off]?<;>rfl
 ·rename_i x off;show lh (iu 1 false [.ip x off] []) (fun v=>k v hp)=_;simp only[JY,xn,iu,On];cases(cells x)[off]?<;>rfl
end eqs
end
end Go.Ab
end
section
namespace Go.Ab
open Go
noncomputable section
def forceN (m:Nat)(k:Nat→R):R:=Nat.rec (motive:=fun _=>R) (k 0) (fun m _=>k (Nat.succ m)) m
theorem lU (m:Nat)(k:Nat→R):forceN m k=k m:=by cases m<;>rfl
def Jl (n:Int)(k:Int→R):R:=iw n (fun m=>forceN m fun m=>k (.ofNat m)) fun m=>forceN m fun m=>k (.negSucc m)
theorem Hd (n:Int)(k:Int→R):Jl n k=k n:=by cases n<;>simp only[Jl,iw,lU]
def forceNs (l:List Nat)(k:List Nat→R):R:=
 List.rec (motive:=fun _=>(List Nat→R)→R) (fun k=>k []) (fun x _ ih k=>forceN x fun x=>ih fun r=>k (x::r)) l k
theorem mL:∀(l:List Nat) (k:List Nat→R),forceNs l k=k l
 |[],k=>rfl
 |x::r,k=>by
  show forceN x (fun x=>forceNs r fun r=>k (x::r))=_;rw[lU,mL r]
def ta (x:Da)(k:Da→R):R:=
 Da.rec (motive_1:=fun _=>R) (motive_2:=fun _=>PUnit.{1})
  (fun b=>Bool.rec (motive:=fun _=>R) (k (.bool false)) (k (.bool true)) b) (fun i n=>Jl n fun n=>k (.int i n)) (fun s=>k (.str s)) (fun cs _=>k (.agg cs)) (fun z es _=>k (.slice z es)) (k .nilptr) (fun x _=>k (.ptr x)) (fun ks vs _ _=>k (.map ks vs)) (k .nilmap) (fun f cs _=>k (.fn f cs)) (k .nilfn) (fun t x _=>k (.iface t x)) (k .nilif) (fun z es _=>k (.sliceE z es)) (fun i s=>k (.sym i s)) ⟨⟩ (fun _ _ _ _=>⟨⟩) x
theorem vh (x:Da)(k:Da→R):ta x k=k x:=by
 cases x<;>try rfl
 ·rename_i b;cases b<;>rfl
 ·simp only[ta,Hd]
def ib (d:D)(k:D→R):R:=
 D.rec (motive_1:=fun _=>R) (motive_2:=fun _=>PUnit.{1})
  (fun x=>ta x fun x=>k (.p x)) (fun cs _=>k (.agg cs)) (fun ds _=>k (.tup ds)) (fun id off=>forceN id fun id=>forceN off fun off=>k (.box id off)) (fun id i off=>forceN id fun id=>forceN i fun i=>forceN off fun off=>k (.el id i off)) (fun x off=>k (.ip x off))
  (fun id lo len z=>forceN id fun id=>forceN lo fun lo=>forceN len fun len=>k (.arr id lo len z)) (fun g z es=>k (.sl g z es)) (fun id=>forceN id fun id=>k (.map id)) (fun f cs _=>k (.fn f cs)) (fun t d _=>k (.iface t d)) (k .junk) ⟨⟩ (fun _ _ _ _=>⟨⟩) d
theorem jX (d:D)(k:D→R):ib d k=k d:=by
 cases d<;>simp only[ib,lU,vh]
def forceTm (tm:Tm)(k:Tm→R):R:=
 Tm.rec (motive:=fun _=>(Tm→R)→R) (fun k=>k .nil) (fun s d _ ih k=>ib d fun d=>ih fun r=>k (.cons s d r)) tm k
theorem vi:∀(tm:Tm) (k:Tm→R),forceTm tm k=k tm
 | .nil,k=>rfl
 | .cons s d r,k=>by
  show ib d (fun d=>forceTm r fun r=>k (.cons s d r))=_;rw[jX,vi r]
def forceDs (ds:List D)(k:List D→R):R:=
 List.rec (motive:=fun _=>(List D→R)→R) (fun k=>k []) (fun d _ ih k=>ib d fun d=>ih fun r=>k (d::r)) ds k
theorem ic:∀(ds:List D) (k:List D→R),forceDs ds k=k ds
 |[],k=>rfl
 |d::r,k=>by
  show ib d (fun d=>forceDs r fun r=>k (d::r))=_;rw[jX,ic r]
def wT (ds:List Da)(k:List Da→R):R:=
 List.rec (motive:=fun _=>(List Da→R)→R) (fun k=>k []) (fun d _ ih k=>ta d fun d=>ih fun r=>k (d::r)) ds k
theorem qn:∀(ds:List Da) (k:List Da→R),wT ds k=k ds
 |[],k=>rfl
 |d::r,k=>by
  show ta d (fun d=>wT r fun r=>k (d::r))=_;rw[vh,qn r]
def Ce (o:Ob)(k:Ob→R):R:=
 Ob.rec (motive:=fun _=>R) (fun cs=>forceDs cs fun cs=>k (.box cs)) (fun es=>wT es fun es=>k (.arr es)) (fun es=>k (.fz es)) (fun ks vs=>k (.map ks vs)) (fun ks vs=>k (.fzm ks vs)) (k .dead) (k .unborn) (fun ks vs=>forceDs vs fun vs=>k (.mapd ks vs)) o
theorem QQ (o:Ob)(k:Ob→R):Ce o k=k o:=by
 cases o<;>simp only[Ce,ic,qn]
def td (hp:List Ob)(k:List Ob→R):R:=
 List.rec (motive:=fun _=>(List Ob→R)→R) (fun k=>k []) (fun o _ ih k=>Ce o fun o=>ih fun r=>k (o::r)) hp k
theorem mK:∀(hp:List Ob) (k:List Ob→R),td hp k=k hp
 |[],k=>rfl
 |o::r,k=>by
  show Ce o (fun o=>td r fun r=>k (o::r))=_;rw[QQ,mK r]
def Cd (o:Ob)(k:Ob→R):R:=
 Ob.rec (motive:=fun _=>R) (fun cs=>forceDs cs fun cs=>k (.box cs)) (fun es=>k (.arr es)) (fun es=>k (.fz es)) (fun ks vs=>k (.map ks vs)) (fun ks vs=>k (.fzm ks vs)) (k .dead) (k .unborn) (fun ks vs=>forceDs vs fun vs=>k (.mapd ks vs)) o
theorem QP (o:Ob)(k:Ob→R):Cd o k=k o:=by
 cases o<;>simp only[Cd,ic]
def forceHb (hp:List Ob)(k:List Ob→R):R:=
 List.rec (motive:=fun _=>(List Ob→R)→R) (fun k=>k []) (fun o _ ih k=>Cd o fun o=>ih fun r=>k (o::r)) hp k
theorem mJ:∀(hp:List Ob) (k:List Ob→R),forceHb hp k=k hp
 |[],k=>rfl
 |o::r,k=>by
  show Cd o (fun o=>forceHb r fun r=>k (o::r))=_;rw[QP,mJ r]
def acz (l:List Nat)(x:Nat):Bool:=List.rec (motive:=fun _=>Bool) false (fun y _ ih=>Bool.rec (motive:=fun _=>Bool) ih true (Nat.beq x y)) l
theorem SU (x:Nat):∀l,acz l x=l.contains x
 |[]=>rfl
 |y::r=>by
  show Bool.rec (motive:=fun _=>Bool) (acz r x) true (Nat.beq x y)=_;rw[SU x r,List.contains_cons];have:(x==y)=Nat.beq x y:=by rw[mδ,beq_iff_eq,Nat.beq_eq]
  rw[this];cases Nat.beq x y<;>rfl
def Tt (l:List Nat)(x:Nat):List Nat:=List.rec (motive:=fun _=>List Nat) [x] (fun y _ ih=>y::ih) l
theorem Pd (x:Nat):∀l,Tt l x=l++[x]
 |[]=>rfl
 |y::r=>by
  show y::Tt r x=_;rw[Pd x r];rfl
def Lw (hp:List Ob)(i:Nat):Ob:=List.rec (motive:=fun _=>Nat→Ob) (fun _=> .dead) (fun o _ ih i=>Nat.rec (motive:=fun _=>Ob) o (fun i _=>ih i) i) hp i
theorem oF:∀(hp:List Ob) (i:Nat),Lw hp i=hp.getD i .dead
 |[],i=>by simp[Lw]
 |o::r,0=>rfl
 |o::r,i+1=>by
  show Lw r i=_;rw[oF r i];simp
def G4 (d:D):List Nat→List Nat:=
 D.rec (motive_1:=fun _=>List Nat→List Nat) (motive_2:=fun _=>List Nat→List Nat)
  (fun _ ws=>ws) (fun _ ih ws=>ih ws) (fun _ ih ws=>ih ws) (fun id _ ws=>id::ws) (fun id _ _ ws=>id::ws) (fun _ _ ws=>ws)
  (fun id _ _ _ ws=>id::ws) (fun _ _ _ ws=>ws) (fun id ws=>id::ws) (fun _ _ ih ws=>ih ws) (fun _ _ ih ws=>ih ws) (fun ws=>ws) (fun ws=>ws) (fun _ _ ihd ihr ws=>ihd (ihr ws)) d
def gt (ds:List D)(ws:List Nat):List Nat:=List.rec (motive:=fun _=>List Nat) ws (fun d _ ih=>G4 d ih) ds
mutual
theorem wI:∀(d:D) (ws:List Nat),G4 d ws=dids d++ws
 | .p _,ws=>rfl
 | .agg cs,ws=>wK cs ws
 | .tup cs,ws=>wK cs ws
 | .box _ _,ws=>rfl
 | .el _ _ _,ws=>rfl
 | .ip _ _,ws=>rfl
 | .arr _ _ _ _,ws=>rfl
 | .sl _ _ _,ws=>rfl
 | .map _,ws=>rfl
 | .fn _ cs,ws=>wK cs ws
 | .iface _ d,ws=>wI d ws
 | .junk,ws=>rfl
theorem wK:∀(ds:List D) (ws:List Nat),D.rec_1 (motive_1:=fun _=>List Nat→List Nat) (motive_2:=fun _=>List Nat→List Nat)
  (fun _ ws=>ws) (fun _ ih ws=>ih ws) (fun _ ih ws=>ih ws) (fun id _ ws=>id::ws) (fun id _ _ ws=>id::ws) (fun _ _ ws=>ws)
  (fun id _ _ _ ws=>id::ws) (fun _ _ _ ws=>ws) (fun id ws=>id::ws) (fun _ _ ih ws=>ih ws) (fun _ _ ih ws=>ih ws) (fun ws=>ws) (fun ws=>ws) (fun _ _ ihd ihr ws=>ihd (ihr ws)) ds ws=dids.didsL ds++ws
 |[],ws=>rfl
 |d::r,ws=>by
  show G4 d (D.rec_1 (motive_1:=fun _=>List Nat→List Nat) (motive_2:=fun _=>List Nat→List Nat) _ _ _ _ _ _ _ _ _ _ _ _ _ _ r ws)=_;rw[wI d,wK r];simp only[dids.didsL,mν]
end
theorem ga (ws:List Nat):∀ds,gt ds ws=dids.didsL ds++ws
 |[]=>rfl
 |d::r=>by
  show G4 d (gt r ws)=_;rw[wI,ga ws r];simp only[dids.didsL,mν]
def ED (o:Ob)(ws:List Nat):List Nat:=Ob.rec (motive:=fun _=>List Nat) (fun cs=>gt cs ws) (fun _=>ws) (fun _=>ws) (fun _ _=>ws) (fun _ _=>ws) ws ws (fun _ vs=>gt vs ws) o
theorem Hx (o:Ob)(ws:List Nat):ED o ws=ls o++ws:=by
 cases o<;>first|rfl|exact ga ws _
def hZ (hp:List Ob)(n:Nat):List Nat→List Nat→List Nat:=
 Nat.rec (motive:=fun _=>List Nat→List Nat→List Nat) (fun _ acc=>acc)
  (fun _ ih ws acc=>List.rec (motive:=fun _=>List Nat) acc (fun id ws _=>Bool.rec (motive:=fun _=>List Nat) (ih (ED (Lw hp id) ws) (Tt acc id)) (ih ws acc) (acz acc id)) ws) n
theorem fg (hp:List Ob):∀(n:Nat) (ws acc:List Nat),hZ hp n ws acc=co hp n ws acc
 |0,ws,acc=>rfl
 |n+1,[],acc=>rfl
 |n+1,id::ws,acc=>by
  show Bool.rec (motive:=fun _=>List Nat) (hZ hp n (ED (Lw hp id) ws) (Tt acc id)) (hZ hp n ws acc) (acz acc id)=_;rw[fg hp n,fg hp n,SU,Pd,Hx,oF];simp only[co];cases acc.contains id<;>simp
def li (ids:List Nat)(id:Nat):Option Nat:=
 List.rec (motive:=fun _=>Nat→Option Nat) (fun _=>none) (fun x _ ih n=>Bool.rec (motive:=fun _=>Option Nat) (ih (Nat.succ n)) (some n) (Nat.beq x id)) ids 0
theorem lN (ids:List Nat):li ids=idx ids:=by
 funext id
 have go:∀(l:List Nat) (n:Nat),List.rec (motive:=fun _=>Nat→Option Nat) (fun _=>none) (fun x _ ih n=>Bool.rec (motive:=fun _=>Option Nat) (ih (Nat.succ n)) (some n) (Nat.beq x id)) l n=idx.go id l n:=by
  intro l;induction l with
  |nil=>intro n;rfl
  |cons x r ih=>
   intro n;show Bool.rec (motive:=fun _=>Option Nat) _ (some n) (Nat.beq x id)=bif Nat.beq x id then some n else idx.go id r (n+1)
   rw[←ih (n+1)];cases Nat.beq x id<;>rfl
 exact go ids 0
def jA (σ:Nat→Option Nat)(d:D):D:=
 D.rec (motive_1:=fun _=>D) (motive_2:=fun _=>List D)
  (fun x=> .p x) (fun _ ih=> .agg ih) (fun _ ih=> .tup ih) (fun id off=>Option.rec (motive:=fun _=>D) .junk (fun j=> .box j off) (σ id)) (fun id i off=>Option.rec (motive:=fun _=>D) .junk (fun j=> .el j i off) (σ id)) (fun x off=> .ip x off)
  (fun id lo len z=>Option.rec (motive:=fun _=>D) .junk (fun j=> .arr j lo len z) (σ id)) (fun g z es=> .sl g z es) (fun id=>Option.rec (motive:=fun _=>D) .junk (fun j=> .map j) (σ id)) (fun f _ ih=> .fn f ih) (fun t _ ih=> .iface t ih) .junk [] (fun _ _ ihd ihr=>ihd::ihr) d
def gw (σ:Nat→Option Nat)(ds:List D):List D:=List.rec (motive:=fun _=>List D) [] (fun d _ ih=>jA σ d::ih) ds
mutual
theorem gS (σ:Nat→Option Nat):∀(d:D),jA σ d=mapD σ d
 | .p _=>rfl
 | .agg cs=>by show D.agg _=_;rw[xl σ cs];rfl
 | .tup cs=>by show D.tup _=_;rw[xl σ cs];rfl
 | .box id _=>by simp only[jA,mapD];cases σ id<;>rfl
 | .el id _ _=>by simp only[jA,mapD];cases σ id<;>rfl
 | .ip _ _=>rfl
 | .arr id _ _ _=>by simp only[jA,mapD];cases σ id<;>rfl
 | .sl _ _ _=>rfl
 | .map id=>by simp only[jA,mapD];cases σ id<;>rfl
 | .fn _ cs=>by show D.fn _ _=_;rw[xl σ cs];rfl
 | .iface _ d=>by
  show D.iface _ (jA σ d)=_;rw[gS σ d];rfl
 | .junk=>rfl
theorem xl (σ:Nat→Option Nat):∀(ds:List D),D.rec_1 (motive_1:=fun _=>D) (motive_2:=fun _=>List D)
  (fun x=> .p x) (fun _ ih=> .agg ih) (fun _ ih=> .tup ih) (fun id off=>Option.rec (motive:=fun _=>D) .junk (fun j=> .box j off) (σ id)) (fun id i off=>Option.rec (motive:=fun _=>D) .junk (fun j=> .el j i off) (σ id)) (fun x off=> .ip x off)
  (fun id lo len z=>Option.rec (motive:=fun _=>D) .junk (fun j=> .arr j lo len z) (σ id)) (fun g z es=> .sl g z es) (fun id=>Option.rec (motive:=fun _=>D) .junk (fun j=> .map j) (σ id)) (fun f _ ih=> .fn f ih) (fun t _ ih=> .iface t ih) .junk [] (fun _ _ ihd ihr=>ihd::ihr) ds=mapD.mapDL σ ds
 |[]=>rfl
 |d::r=>by
  show jA σ d::_=_;rw[xl σ r,gS σ d];rfl
end
theorem j1 (σ:Nat→Option Nat):∀ds,gw σ ds=mapD.mapDL σ ds
 |[]=>rfl
 |d::r=>by
  show jA σ d::gw σ r=_;rw[gS,j1 σ r];rfl
def sf (σ:Nat→Option Nat)(o:Ob):Ob:=Ob.rec (motive:=fun _=>Ob) (fun cs=> .box (gw σ cs)) (fun es=> .arr es) (fun es=> .fz es) (fun ks vs=> .map ks vs) (fun ks vs=> .fzm ks vs) .dead .unborn (fun ks vs=> .mapd ks (gw σ vs)) o
theorem Hq (σ:Nat→Option Nat)(o:Ob):sf σ o=cq σ o:=by
 cases o<;>try rfl
 ·simp only[sf,cq,j1]
 ·simp only[sf,cq,j1]
def qv (ids:List Nat)(hp:List Ob):List Ob:=List.rec (motive:=fun _=>List Ob) [] (fun i _ ih=>sf (li ids) (Lw hp i)::ih) ids
theorem mW (ids:List Nat)(hp:List Ob):qv ids hp=cd ids hp:=by
 have go:∀l:List Nat,List.rec (motive:=fun _=>List Ob) [] (fun i _ ih=>sf (li ids) (Lw hp i)::ih) l=l.map fun i=>cq (idx ids) (aZ hp i):=by
  intro l;induction l with
  |nil=>rfl
  |cons x r ih=>
   show sf (li ids) (Lw hp x)::_=_;rw[ih,Hq,lN,oF];rfl
 exact go ids
def qO (σ:Nat→Option Nat)(hp:List Ob):List Ob:=List.rec (motive:=fun _=>List Ob) [] (fun o _ ih=>sf σ o::ih) hp
theorem pb (σ:Nat→Option Nat):∀hp,qO σ hp=hp.map (cq σ)
 |[]=>rfl
 |o::r=>by
  show sf σ o::qO σ r=_;rw[Hq,pb σ r];rfl
def km (m:Nat)(hp:List Ob):List Nat:=List.rec (motive:=fun _=>Nat→List Nat) (fun _=>[]) (fun o _ ih m=>Nat.rec (motive:=fun _=>List Nat) [] (fun m _=>ED o (ih m)) m) hp m
theorem j3:∀(hp:List Ob) (m:Nat),km m hp=(hp.take m).flatMap ls
 |[],m=>by simp[km]
 |o::r,0=>rfl
 |o::r,m+1=>by
  show ED o (km m r)=_;rw[Hx,j3 r m];simp
def GE (hp:List Ob)(i:Nat)(o:Ob)(k:List Ob→R):R:=
 List.rec (motive:=fun _=>Nat→(List Ob→R)→R) (fun _ k=>k []) (fun x r ih i k=>Nat.rec (motive:=fun _=>R) (k (o::r)) (fun i _=>ih i fun r=>k (x::r)) i) hp i k
theorem xO (o:Ob):∀(hp:List Ob) (i:Nat) (k:List Ob→R),GE hp i o k=k (xP hp i o)
 |[],i,k=>by simp[GE,xP]
 |x::r,0,k=>rfl
 |x::r,i+1,k=>by
  show GE r i o (fun r=>k (x::r))=_;rw[xO o r i];rfl
def unb (o:Ob)(t:R):R:=Ob.rec (motive:=fun _=>R) (fun _=>none) (fun _=>none) (fun _=>none) (fun _ _=>none) (fun _ _=>none) none t (fun _ _=>none) o
theorem RN (o:Ob)(t:R):unb o t=bif cO o then t else none:=by cases o<;>rfl
def Tx (l:List Nat)(n:Nat)(k:List Nat→R):R:=
 List.rec (motive:=fun _=>Nat→(List Nat→R)→R) (fun _ k=>k []) (fun x _ ih n k=>Nat.rec (motive:=fun _=>R) (k []) (fun n _=>ih n fun r=>k (x::r)) n) l n k
theorem Pf:∀(l:List Nat) (n:Nat) (k:List Nat→R),Tx l n k=k (l.take n)
 |[],n,k=>by simp[Tx]
 |x::r,0,k=>rfl
 |x::r,n+1,k=>by
  show Tx r n (fun r=>k (x::r))=_;rw[Pf r n];rfl
def tlN {α:Type}(l:List α)(n:Nat):List α:=Nat.rec (motive:=fun _=>List α) l (fun _ ih=>tl ih) n
theorem RK {α:Type}(l:List α):∀n,tlN l n=l.drop n
 |0=>rfl
 |n+1=>by
  show tl (tlN l n)=_;rw[aam,RK l n,qζ]
def YE {α:Type}(l:List α)(n:Nat):List α:=tlN (Sm l (Nat.div n 16)) (Nat.mod n 16)
theorem YF {α:Type}(l:List α)(n:Nat):YE l n=l.drop n:=by
 unfold YE;rw[RK,DS,qζ];congr 1;exact Nat.div_add_mod n 16
def okF (d:D):Bool:=
 D.rec (motive_1:=fun _=>Bool) (motive_2:=fun _=>PUnit.{1})
  (fun _=>true) (fun _ _=>false) (fun _ _=>false) (fun _ _=>true) (fun _ _ _=>true) (fun _ _=>true) (fun _ _ _ _=>true) (fun _ _ _=>true) (fun _=>true) (fun _ _ _=>true) (fun _ _ _=>true) false ⟨⟩ (fun _ _ _ _=>⟨⟩) d
theorem afS (d:D):okF d=dK d:=by cases d<;>rfl
def Y8 (xs:List D)(n:Nat):Bool:=
 List.rec (motive:=fun _=>Nat→Bool) (fun n=>Nat.rec (motive:=fun _=>Bool) true (fun _ _=>false) n) (fun d _ ih n=>Nat.rec (motive:=fun _=>Bool) false (fun m _=>Bool.rec (motive:=fun _=>Bool) false (ih m) (okF d)) n) xs n
theorem Jk:∀(xs:List D) (n:Nat),Y8 xs n=(Nat.beq xs.length n&&xs.all dK)
 |[],0=>rfl
 |[],n+1=>rfl
 |d::r,0=>rfl
 |d::r,n+1=>by
  show Bool.rec (motive:=fun _=>Bool) false (Y8 r n) (okF d)=(Nat.beq r.length n&&(dK d&&r.all dK));rw[Jk r n,afS];cases dK d<;>simp
def Zi {α:Type}(xs:List α)(n:Nat):Bool:=
 List.rec (motive:=fun _=>Nat→Bool) (fun n=>Nat.rec (motive:=fun _=>Bool) true (fun _ _=>false) n) (fun _ _ ih n=>Nat.rec (motive:=fun _=>Bool) true (fun m _=>ih m) n) xs n
theorem Cf {α:Type}:∀(xs:List α) (n:Nat),Zi xs n=Nat.ble n xs.length
 |[],0=>rfl
 |[],n+1=>rfl
 |d::r,0=>rfl
 |d::r,n+1=>Cf r n
def Ta (xs:List D):List D→List D:=List.rec (motive:=fun _=>List D→List D) (fun cs=>cs) (fun x _ ih cs=>x::ih (tl cs)) xs
theorem Ot:∀(xs cs:List D),Ta xs cs=xs++cs.drop xs.length
 |[],cs=>rfl
 |x::r,cs=>by
  show x::Ta r (tl cs)=_;rw[Ot r,aam,qζ];simp[Nat.add_comm]
def V1 (cs:List D)(off:Nat)(xs:List D):List D:=
 List.rec (motive:=fun _=>Nat→List D) (fun _=>xs) (fun c r ih off=>Nat.rec (motive:=fun _=>List D) (Ta xs (c::r)) (fun o _=>c::ih o) off) cs off
theorem Lh (xs:List D):∀(cs:List D) (off:Nat),V1 cs off xs=splice cs off xs
 |[],off=>by simp[V1,splice]
 |c::r,0=>by
  show Ta xs (c::r)=_;rw[Ot];simp[splice]
 |c::r,o+1=>by
  show c::V1 r o xs=_;rw[Lh xs r o];simp[splice,Nat.add_right_comm]
def ZI (cs:List Da):List D:=List.rec (motive:=fun _=>List D) [] (fun x _ ih=> .p x::ih) cs
theorem Cj:∀cs,ZI cs=cs.map .p
 |[]=>rfl
 |c::r=>by show D.p c::ZI r=_;rw[Cj r];rfl
def wH (d:D)(k:List D→R):R:=
 D.rec (motive_1:=fun _=>R) (motive_2:=fun _=>PUnit.{1})
  (fun x=>Da.rec (motive_1:=fun _=>R) (motive_2:=fun _=>PUnit.{1})
   (fun _=>k [d]) (fun _ _=>k [d]) (fun _=>k [d]) (fun cs _=>k (ZI cs)) (fun _ _ _=>k [d]) (k [d]) (fun _ _=>k [d]) (fun _ _ _ _=>k [d]) (k [d]) (fun _ _ _=>k [d]) (k [d]) (fun _ _ _=>k [d]) (k [d]) (fun _ _ _=>k [d]) (fun _ _=>k [d]) ⟨⟩ (fun _ _ _ _=>⟨⟩) x)
  (fun ds _=>k ds) (fun _ _=>k [d]) (fun _ _=>k [d]) (fun _ _ _=>k [d]) (fun _ _=>k [d]) (fun _ _ _ _=>k [d]) (fun _ _ _=>k [d]) (fun _=>k [d]) (fun _ _ _=>k [d]) (fun _ _ _=>k [d]) (k [d]) ⟨⟩ (fun _ _ _ _=>⟨⟩) d
theorem DQ (d:D)(k:List D→R):wH d k=k (cg d):=by
 cases d<;>try rfl
 rename_i x;cases x<;>try rfl
 simp only[wH,Cj,cg]
def Xf (ds:List D)(e:R)(k:List Da→R):R:=
 List.rec (motive:=fun _=>(List Da→R)→R) (fun k=>k [])
  (fun d _ ih k=>gO d e fun x=>ih fun xs=>k (x::xs)) ds k
theorem Mz (e:R):∀(ds:List D) (k:List Da→R),Xf ds e k=match jH ds with
  |some xs=>k xs
  |none=>e
 |[],k=>rfl
 |d::r,k=>by
  cases d<;>try rfl
  rename_i x;show Xf r e (fun xs=>k (x::xs))=_;rw[Mz e r];simp only[jH];cases jH r<;>rfl
def J3 (ds:List D)(k:D→R):R:=Xf ds (k (.agg ds)) fun xs=>k (.p (.agg xs))
theorem Hs (ds:List D)(k:D→R):J3 ds k=k (Ew ds):=by
 simp only[J3,Mz,Ew];cases jH ds<;>rfl
def Y6 (ps:List (Nat×Nat)):List D→List D→(List D→R)→R:=
 List.rec (motive:=fun _=>List D→List D→(List D→R)→R)
  (fun cs ds k=>List.rec (motive:=fun _=>R) (k cs) (fun _ _ _=>none) ds)
  (fun p _ ih cs ds k=>List.rec (motive:=fun _=>R) none (fun d ds _=>wH d fun xs=>vI (Y8 xs p.2) (vI (Zi cs (Nat.add p.1 p.2)) (ih (V1 cs p.1 xs) ds k) none) none) ds) ps
theorem M9:∀(ps:List (Nat×Nat)) (cs ds:List D) (k:List D→R),Y6 ps cs ds k=caseO (t9 cs ps ds) none k
 |[],cs,[],k=>rfl
 |[],cs,d::ds,k=>rfl
 |p::ps,cs,[],k=>rfl
 |(off,n)::ps,cs,d::ds,k=>by
  show wH d (fun xs=>vI (Y8 xs n) (vI (Zi cs (Nat.add off n)) (Y6 ps (V1 cs off xs) ds k) none) none)=_
  simp only[DQ,ig,Jk,Cf,Lh,M9 ps,t9];have:Nat.add off n=off+n:=rfl;rw[this];cases Nat.beq (cg d).length n<;>cases(cg d).all dK<;>cases Nat.ble (off+n) cs.length<;>rfl
def I0 (zs:List D)(ps:List (Nat×Nat))(vs:List D)(k:D→R):R:=Y6 ps zs vs fun cs=>J3 cs k
def aak {α:Type}(l:List α)(n:Nat)(k:List α→R):R:=
 List.rec (motive:=fun _=>Nat→(List α→R)→R) (fun n k=>Nat.rec (motive:=fun _=>R) (k []) (fun _ _=>none) n) (fun x _ ih n k=>Nat.rec (motive:=fun _=>R) (k []) (fun n _=>ih n fun r=>k (x::r)) n) l n k
theorem Pg {α:Type}:∀(l:List α) (n:Nat) (k:List α→R),aak l n k=bif Nat.ble n l.length then k (l.take n)else none
 |[],0,k=>rfl
 |[],n+1,k=>rfl
 |x::r,0,k=>rfl
 |x::r,n+1,k=>by
  show aak r n (fun r=>k (x::r))=_;rw[Pg r n];rfl
def RJ {α:Type}(l:List α)(off n:Nat)(k:List α→R):R:=vI (Zi l off) (aak (tlN l off) n k) none
def vx (agg:Bool)(ds:List D)(k:D→R):R:=Bool.rec (motive:=fun _=>R) (List.rec (motive:=fun _=>R) none (fun d r _=>List.rec (motive:=fun _=>R) (k d) (fun _ _ _=>none) r) ds) (J3 ds k) agg
theorem ph (agg:Bool)(ds:List D)(k:D→R):vx agg ds k=caseO (eA agg ds) none k:=by
 cases agg with
 |true=>simp only[vx,Hs,eA,cond_true,caseO]
 |false=>
  match ds with
  |[]=>rfl
  |[d]=>rfl
  |_::_::_=>rfl
def SP (n:Nat)(agg:Bool)(d:D)(hp:List Ob)(e:R)(k:D→R):R:=
 D.rec (motive_1:=fun _=>R) (motive_2:=fun _=>PUnit.{1})
  (fun _=>e) (fun _ _=>none) (fun _ _=>none)
  (fun id off=>nV (Lw hp id) none fun cs=>RJ cs off n fun ds=>vx agg ds k)
  (fun _ _ _=>e)
  (fun x off=>RJ (cells x) off n fun xs=>vx agg (ZI xs) k)
  (fun _ _ _ _=>none) (fun _ _ _=>none) (fun _=>none) (fun _ _ _=>none) (fun _ _ _=>none) none ⟨⟩ (fun _ _ _ _=>⟨⟩) d
def Y9 (off n:Nat)(agg:Bool)(d:D)(k:D→R):R:=
 D.rec (motive_1:=fun _=>R) (motive_2:=fun _=>PUnit.{1})
  (fun x=>Da.rec (motive_1:=fun _=>R) (motive_2:=fun _=>PUnit.{1})
   (fun _=>none) (fun _ _=>none) (fun _=>none) (fun cs _=>RJ cs off n fun xs=>vx agg (ZI xs) k) (fun _ _ _=>none) none (fun _ _=>none) (fun _ _ _ _=>none) none (fun _ _ _=>none) none (fun _ _ _=>none) none (fun _ _ _=>none) (fun _ _=>none) ⟨⟩ (fun _ _ _ _=>⟨⟩) x)
  (fun ds _=>RJ ds off n fun ds=>vx agg ds k) (fun _ _=>none) (fun _ _=>none) (fun _ _ _=>none) (fun _ _=>none) (fun _ _ _ _=>none) (fun _ _ _=>none) (fun _=>none) (fun _ _ _=>none) (fun _ _ _=>none) none ⟨⟩ (fun _ _ _ _=>⟨⟩) d
def IV (base kk:Nat)(zs:List D)(hp:List Ob)(k:KV):R:=
 forceN (Nat.add base kk) fun id=>unb (Lw hp id) (GE hp id (.box zs) fun hp=>k (.box id 0) hp)
def abc (base:Nat)(n kk:Nat)(d:D)(hp:List Ob)(k:KV):R:=
 forceN (Nat.add base kk) fun id=>unb (Lw hp id) (forceDs (cg d) fun cs=>vI (Nat.beq cs.length n&&cs.all dK) (GE hp id (.box cs) fun hp=>k (.box id 0) hp) none)
def RG (n:Nat)(a d:D)(hp:List Ob)(e:R)(k:KV):R:=
 D.rec (motive_1:=fun _=>R) (motive_2:=fun _=>PUnit.{1})
  (fun _=>none) (fun _ _=>none) (fun _ _=>none)
  (fun id off=>nV (Lw hp id) none fun cs=>wH d fun xs=>vI (Y8 xs n) (vI (Zi cs (Nat.add off n)) (forceDs (V1 cs off xs) fun cs=>GE hp id (.box cs) fun hp=>k .junk hp) none) none)
  (fun _ _ _=>e) (fun _ _=>none)
  (fun _ _ _ _=>none) (fun _ _ _=>none) (fun _=>none) (fun _ _ _=>none) (fun _ _ _=>none) none ⟨⟩ (fun _ _ _ _=>⟨⟩) a
section eqs
variable {call:aJ} {base kk:Nat} {hp:List Ob} {k:KV}
theorem UH (zs:List D):dA call base (.alloc zs) kk [] hp k=IV base kk zs hp k:=by
 simp only[IV,lU,RN,xO,oF];rfl
theorem abd (n:Nat)(d:D):dA call base (.box n) kk [d] hp k=abc base n kk d hp k:=by
 simp only[abc,lU,RN,xO,oF,ic,ig];show(bif cO (aZ hp (base+kk))then match W4 n base kk [d]with
  |none=>none
  |some (v,ups,new)=>k v (grow (az hp ups) new)else none)=_
 simp only[W4];have:aZ hp (base+kk)=hp.getD (Nat.add base kk) .dead:=rfl;rw[this];cases cO (hp.getD (Nat.add base kk) .dead)
 ·rfl
 ·simp only[cond_true];cases(Nat.beq (cg d).length n&&(cg d).all dK)<;>rfl
theorem V7 (n:Nat)(a d:D):dA call base (.store n) kk [a,d] hp k=RG n a d hp (dA call base (.store n) kk [a,d] hp k) k:=by
 cases a<;>try rfl
 rename_i id off;simp only[RG,xO,oF,ic,ig,DQ,Jk,Cf,Lh];have hn:bM (.store n) [.box id off,d] hp=id::(dids d++[]):=rfl;have hl:gu ((id::(dids d++[])).zip ((id::(dids d++[])).map (aZ hp))) id=aZ hp id:=by
  simp only[List.map_cons,List.zip_cons_cons,gu,show Nat.beq id id=true from Nat.beq_refl id,cond_true]
 simp only[dA,cX,Bool.not_false,Bool.true_or,cond_true,qf,qe,hn,hl];have:aZ hp id=hp.getD id .dead:=rfl;rw[this];cases hp.getD id .dead<;>try rfl
 rename_i cs;have h2:Nat.add off n=off+n:=rfl;simp only[nV,h2];cases Nat.beq (cg d).length n<;>cases(cg d).all dK<;>cases Nat.ble (off+n) cs.length<;>rfl
theorem xS {α:Type}(l:List α)(off n:Nat)(f:List α→R):RJ l off n f=caseO (sub l off n) none f:=by
 unfold RJ sub;rw[ig,Cf,RK,Pg,qξ];cases h:Nat.ble (off+n) l.length
 ·cases h1:Nat.ble off l.length
  ·rfl
  ·have:Nat.ble n (l.length - off)=false:=by
    rw[←Bool.not_eq_true,Nat.ble_eq]at h ⊢
    have:=Nat.le_of_ble_eq_true h1;omega
   rw[this];rfl
 ·have:=Nat.le_of_ble_eq_true h;rw[Nat.ble_eq.mpr (by omega:off≤l.length),Nat.ble_eq.mpr (by omega:n≤l.length - off)];rfl
theorem ZE (n:Nat)(agg:Bool)(x:D):dA call base (.load n agg) kk [x] hp k=SP n agg x hp (lh (iu n agg [x] ((dids x).map (aZ hp))) fun v=>k v hp) fun v=>k v hp:=by
 rw[ct rfl];cases x<;>try rfl
 ·rename_i id off;show lh (iu n agg [.box id off] [aZ hp id]) (fun v=>k v hp)=_;simp only[SP,iu,oF,xS,ph];have:aZ hp id=hp.getD id .dead:=rfl;rw[this];cases hp.getD id .dead<;>try rfl
  rename_i cs;simp only[nV];cases sub cs off n with
  |none=>rfl
  |some ds=>
   simp only[caseO];cases eA agg ds<;>rfl
 ·rename_i x off;show lh (iu n agg [.ip x off] []) (fun v=>k v hp)=_;simp only[SP,iu,xS,ph,Cj];cases sub (cells x) off n with
  |none=>rfl
  |some ds=>
   simp only[caseO];cases eA agg (ds.map .p)<;>rfl
theorem acW {α β:Type}(f:α→β)(l:List α)(off n:Nat):sub (l.map f) off n=(sub l off n).map (List.map f):=by
 unfold sub;rw[lβ];cases Nat.ble (off+n) l.length
 ·rfl
 ·simp[List.map_drop,List.map_take]
theorem ab5 (off n:Nat)(agg:Bool)(x:D):dA call base (.fld off n agg) kk [x] hp k=Y9 off n agg x fun v=>k v hp:=by
 rw[ct rfl];show lh (Mr off n agg [x]) (fun v=>k v hp)=_;cases x<;>try rfl
 ·rename_i x;cases x<;>try rfl
  rename_i cs;simp only[Mr,Y9,xS,ph,Cj,acW];cases sub cs off n with
  |none=>rfl
  |some ds=>
   simp only[Option.map_some,caseO];cases eA agg (ds.map .p)<;>rfl
 ·rename_i cs;simp only[Mr,Y9,xS,ph];cases sub cs off n with
  |none=>rfl
  |some ds=>
   simp only[caseO];cases eA agg ds<;>rfl
theorem UO (zs:List D)(ps:List (Nat×Nat))(vs:List D):dA call base (.build zs ps) kk vs hp k=I0 zs ps vs fun v=>k v hp:=by
 rw[ct rfl];show lh (uU zs ps vs) (fun v=>k v hp)=_;simp only[uU,I0,M9,Hs];cases t9 zs ps vs<;>rfl
end eqs
def adS (n:Nat)(agg:Bool)(x:D)(hp:List Ob)(k:D→R):R:=SP n agg x hp (lh (iu n agg [x] ((dids x).map (aZ hp))) k) k
def Li (call:aJ)(base n kk:Nat)(a d:D)(hp:List Ob)(k:KV):R:=
 RG n a d hp (dA call base (.store n) kk [a,d] hp fun v hp=>td hp fun hp=>k v hp) k
def Zd (call:aJ)(base:Nat)(o:O)(kk:Nat)(vs:List D)(hp:List Ob)(k:KV):R:=
 dA call base o kk vs hp fun v hp=>ib v fun v=>td hp fun hp=>k v hp
theorem Jo (call:aJ)(base:Nat)(o:O)(kk:Nat)(vs:List D)(hp:List Ob)(k:KV):Zd call base o kk vs hp k=dA call base o kk vs hp k:=by
 simp only[Zd,jX,mK]
theorem V4 (call:aJ)(base n kk:Nat)(a d:D)(hp:List Ob)(k:KV):Li call base n kk a d hp k=dA call base (.store n) kk [a,d] hp k:=by
 simp only[Li,mK];exact(V7 n a d).symm
def Lf (lo hi:Bool)(x:D)(xs:List D)(k:D→R):R:=
 gO x none fun x=>qk x none fun s=>caseO (cz lo hi false (NK s) xs) none fun b=>Tx (YE s b.1) (Nat.sub b.2.1 b.1) fun r=>k (.p (.str r))
theorem V0 {call:aJ}{base kk:Nat}{hp:List Ob}{k:KV}(lo hi:Bool)(x:D)(xs:List D):dA call base (.slStr lo hi) kk (x::xs) hp k=Lf lo hi x xs fun v=>k v hp:=by
 rw[ct rfl];show lh (qd lo hi (x::xs)) (fun v=>k v hp)=_;cases x<;>try rfl
 rename_i x;cases x<;>try rfl
 rename_i s;simp only[qd,Lf,gO,qk,Pf,YF,nY];cases cz lo hi false s.length xs with
 |none=>rfl
 |some b=>rfl
def B7 (es:List Da)(n:Nat)(ys:List Da)(e:R)(k:List Da→R):R:=
 List.rec (motive:=fun _=>Nat→(List Da→R)→R) (fun n k=>Nat.rec (motive:=fun _=>R) (k ys) (fun _ _=>e) n) (fun x _ ih n k=>Nat.rec (motive:=fun _=>R) (k ys) (fun m _=>ih m fun r=>k (x::r)) n) es n k
theorem DE (ys:List Da)(e:R):∀(es:List Da) (n:Nat) (k:List Da→R),B7 es n ys e k=bif Nat.ble n es.length then k (es.take n++ys)else e
 |[],0,k=>rfl
 |[],n+1,k=>rfl
 |x::r,0,k=>rfl
 |x::r,n+1,k=>by
  show B7 r n ys e (fun r=>k (x::r))=_;rw[DE ys e r];rfl
def Sd (o:Ob)(e:R)(k:List Da→R):R:=
 Ob.rec (motive:=fun _=>R) (fun _=>e) (fun es=>k es) (fun _=>e) (fun _ _=>e) (fun _ _=>e) e e (fun _ _=>e) o
def yK (esz:Nat)(b:D)(e:R)(k:List Da→R):R:=
 D.rec (motive_1:=fun _=>R) (motive_2:=fun _=>PUnit.{1})
  (fun x=>jV x e fun z es=>vI (Nat.beq z esz) (k es) e) (fun _ _=>e) (fun _ _=>e) (fun _ _=>e) (fun _ _ _=>e) (fun _ _=>e) (fun _ _ _ _=>e) (fun _ z es=>vI (Nat.beq z esz) (k es) e) (fun _=>e) (fun _ _ _=>e) (fun _ _ _=>e) e ⟨⟩ (fun _ _ _ _=>⟨⟩) b
theorem ahN (esz:Nat)(b:D)(os:List (Nat×Ob))(e:R)(k:List Da→R):yK esz b e k=e∨∃ys,elems esz os b=some ys∧yK esz b e k=k ys:=by
 cases b<;>try exact .inl rfl
 ·rename_i x;cases x<;>try exact .inl rfl
  all_goals
   rename_i z es;simp only[yK,jV,ig,elems,qz,Fp];cases Nat.beq z esz
   ·exact .inl rfl
   ·exact .inr ⟨es,rfl,rfl⟩
 ·rename_i g z es;simp only[yK,ig,elems,qz,Fp];cases Nat.beq z esz
  ·exact .inl rfl
  ·exact .inr ⟨es,rfl,rfl⟩
def aem (esz bytes base kk:Nat)(a b:D)(hp:List Ob)(e:R)(k:KV):R:=
 D.rec (motive_1:=fun _=>R) (motive_2:=fun _=>PUnit.{1})
  (fun _=>e) (fun _ _=>e) (fun _ _=>e) (fun _ _=>e) (fun _ _ _=>e) (fun _ _=>e)
  (fun id lo len z=>Nat.rec (motive:=fun _=>R) (vI (Nat.beq z esz) (Sd (Lw hp id) e fun es=>yK esz b e fun ys=>B7 es len ys e fun zs=>
   forceN (Nat.add len (NK ys)) fun l=>vI (Nat.ble (Nat.mul (Nat.add (Nat.mul 2 l) 192) bytes) 281474976710656) (vI (Nat.ble (Nat.add (Nat.mul 2 l) 192) 9223372036854775807)
    (forceN (Nat.add base kk) fun i=>unb (Lw hp i) (GE hp id .dead fun hp=>GE hp i (.arr zs) fun hp=>k (.arr i 0 l esz) hp)) none) none) e) (fun _ _=>e) lo)
  (fun _ _ _=>e) (fun _=>e) (fun _ _ _=>e) (fun _ _ _=>e) e ⟨⟩ (fun _ _ _ _=>⟨⟩) a
theorem aa1 {call:aJ}{base kk:Nat}{hp:List Ob}{k:KV}(esz bytes:Nat)(a b:D):dA call base (.app esz bytes) kk [a,b] hp k=aem esz bytes base kk a b hp (dA call base (.app esz bytes) kk [a,b] hp k) k:=by
 cases a<;>try rfl
 rename_i id lo len z;cases lo with
 |succ lo=>rfl
 |zero=>
  simp only[aem,ig];cases hz:Nat.beq z esz
  ·rfl
  ·have ho:aZ hp id=Lw hp id:=(oF hp id).symm;cases hob:Lw hp id<;>try rfl
   rename_i es;simp only[cond_true,Sd];have hn:bM (.app esz bytes) [.arr id 0 len z,b] hp=id::(dids b++[]):=rfl;have hl:gu ((id::(dids b++[])).zip ((id::(dids b++[])).map (aZ hp))) id= .arr es:=by
    simp only[List.map_cons,List.zip_cons_cons,gu,show Nat.beq id id=true from Nat.beq_refl id,cond_true,ho,hob]
   rcases ahN esz b ((id::(dids b++[])).zip ((id::(dids b++[])).map (aZ hp))) (dA call base (.app esz bytes) kk [.arr id 0 len z,b] hp k) (fun ys=>B7 es len ys (dA call base (.app esz bytes) kk [.arr id 0 len z,b] hp k) fun zs=>
   forceN (Nat.add len (NK ys)) fun l=>bif Nat.ble (Nat.mul (Nat.add (Nat.mul 2 l) 192) bytes) 281474976710656 then bif Nat.ble (Nat.add (Nat.mul 2 l) 192) 9223372036854775807 then
    (forceN (Nat.add base kk) fun i=>unb (Lw hp i) (GE hp id .dead fun hp=>GE hp i (.arr zs) fun hp=>k (.arr i 0 l esz) hp))else none else none)with hy|⟨ys,hy1,hy2⟩
   ·exact hy.symm
   ·rw[hy2,DE];cases hle:Nat.ble len es.length
    ·rfl
    ·have hle':=Nat.le_of_ble_eq_true hle;have hlen:(es.take len).length=len:=by simp[hle']
     simp only[cond_true,lU,xO,RN,oF,nY];simp only[dA,cX,Bool.not_true,Bool.false_or,qf,uT,hn,qK,hl,hz,cond_true,List.drop_zero,hy1,hlen,List.isEmpty_cons,Bool.false_and,cond_false];have e1:aZ hp (base+kk)=hp.getD (Nat.add base kk) .dead:=rfl;rw[e1];have e2:(2*(len+ys.length)+192)*bytes=Nat.mul (Nat.add (Nat.mul 2 (Nat.add len ys.length)) 192) bytes:=rfl;have e3:2*(len+ys.length)+192=Nat.add (Nat.mul 2 (Nat.add len ys.length)) 192:=rfl;rw[e2,e3];cases cO (hp.getD (Nat.add base kk) .dead)<;>cases Nat.ble (Nat.mul (Nat.add (Nat.mul 2 (Nat.add len ys.length)) 192) bytes) 281474976710656<;>cases Nat.ble (Nat.add (Nat.mul 2 (Nat.add len ys.length)) 192) 9223372036854775807<;>rfl
def aaY (call:aJ)(base esz bytes kk:Nat)(a b:D)(hp:List Ob)(k:KV):R:=
 aem esz bytes base kk a b hp (Zd call base (.app esz bytes) kk [a,b] hp k) k
theorem aaZ (call:aJ)(base esz bytes kk:Nat)(a b:D)(hp:List Ob)(k:KV):aaY call base esz bytes kk a b hp k=dA call base (.app esz bytes) kk [a,b] hp k:=by
 unfold aaY;rw[Jo];exact(aa1 esz bytes a b).symm
def XS (esz:Nat)(d:D)(e:R)(k:D→R):R:=gO d e fun x=>vI (Nat.beq (NK (cells x)) esz) (k (.sl .exact esz [x])) none
theorem XT {call:aJ}{base kk:Nat}{hp:List Ob}{k:KV}(esz:Nat)(z:Da)(d:D):dA call base (.bsl esz z 1 [0]) kk [d] hp k=XS esz d (dA call base (.bsl esz z 1 [0]) kk [d] hp k) fun v=>k v hp:=by
 cases d<;>try rfl
 rename_i x;simp only[XS,gO,ig,nY];have:dA call base (.bsl esz z 1 [0]) kk [.p x] hp k=match UF esz z 1 [0] [.p x] [] []with
  |none=>none
  |some (v,ups,new)=>k v (grow (az hp ups) new):=rfl
 rw[this];simp only[UF,pur.purL,pur,List.all_cons,List.all_nil,Bool.and_true];cases Nat.beq (cells x).length esz
 ·rfl
 ·rfl
def XQ (call:aJ)(base esz:Nat)(z:Da)(kk:Nat)(d:D)(hp:List Ob)(k:KV):R:=XS esz d (Zd call base (.bsl esz z 1 [0]) kk [d] hp k) fun v=>k v hp
theorem XR (call:aJ)(base esz:Nat)(z:Da)(kk:Nat)(d:D)(hp:List Ob)(k:KV):XQ call base esz z kk d hp k=dA call base (.bsl esz z 1 [0]) kk [d] hp k:=by
 unfold XQ;rw[Jo];exact(XT esz z d).symm
def rV (d:D)(k:D→R):R:=
 D.rec (motive_1:=fun _=>R) (motive_2:=fun _=>PUnit.{1})
  (fun x=>Da.rec (motive_1:=fun _=>R) (motive_2:=fun _=>PUnit.{1})
   (fun b=>Bool.rec (motive:=fun _=>R) (k (.p (.bool false))) (k (.p (.bool true))) b) (fun i n=>Jl n fun n=>k (.p (.int i n))) (fun s=>forceNs s fun s=>k (.p (.str s))) (fun cs _=>wT cs fun cs=>k (.p (.agg cs))) (fun z es _=>wT es fun es=>k (.p (.slice z es))) (k d) (fun _ _=>k d) (fun _ _ _ _=>k d) (k d) (fun _ _ _=>k d) (k d) (fun _ _ _=>k d) (k d) (fun _ _ _=>k d) (fun _ _=>k d) ⟨⟩ (fun _ _ _ _=>⟨⟩) x)
  (fun cs _=>k (.agg cs)) (fun ds _=>forceDs ds fun ds=>k (.tup ds)) (fun _ _=>ib d k) (fun _ _ _=>ib d k) (fun _ _=>k d)
  (fun _ _ _ _=>ib d k) (fun _ _ _=>k d) (fun _=>ib d k) (fun _ _ _=>k d) (fun _ _ _=>k d) (k d) ⟨⟩ (fun _ _ _ _=>⟨⟩) d
theorem Vp (d:D)(k:D→R):rV d k=k d:=by
 cases d<;>(try rfl)<;>(try (simp only[rV,jX];done))
 ·rename_i x;cases x<;>try rfl
  ·rename_i b;cases b<;>rfl
  ·simp only[rV,Hd]
  ·simp only[rV,mL]
  ·simp only[rV,qn]
  ·simp only[rV,qn]
 ·simp only[rV,ic]
end
end Go.Ab
end
section
namespace Go.Ab
open Go
noncomputable section
def sj (vs:List D)(e:R)(k:List D→R):R:=
 List.rec (motive:=fun _=>(List D→R)→R) (fun k=>k [])
  (fun d _ ih k=>D.rec (motive_1:=fun _=>R) (motive_2:=fun _=>PUnit.{1})
   (fun x=>ih fun xs=>k (.p x::xs)) (fun _ _=>e) (fun _ _=>e) (fun _ _=>e) (fun _ _ _=>e) (fun _ _=>e) (fun _ _ _ _=>e) (fun _ _ _=>e) (fun _=>e) (fun _ _ _=>e) (fun _ _ _=>e) e ⟨⟩ (fun _ _ _ _=>⟨⟩) d) vs k
def Tg (r:D)(e:R)(k:D→R):R:=
 D.rec (motive_1:=fun _=>R) (motive_2:=fun _=>PUnit.{1})
  (fun x=>k (.p x)) (fun _ _=>e) (fun ds _=>sj ds e fun ds=>k (.tup ds)) (fun _ _=>e) (fun _ _ _=>e) (fun _ _=>e) (fun _ _ _ _=>e) (fun _ _ _=>e) (fun _=>e) (fun _ _ _=>e) (fun _ _ _=>e) e ⟨⟩ (fun _ _ _ _=>⟨⟩) r
def Pu:D→Bool
 | .p _=>true
 |_=>false
theorem k6 (e:R):∀(vs:List D) (k:List D→R),sj vs e k=bif vs.all Pu then k vs else e
 |[],k=>rfl
 |d::r,k=>by
  cases d<;>try rfl
  rename_i x;show sj r e (fun xs=>k (.p x::xs))=_;rw[k6 e r];rfl
def ER:D→Bool
 | .p _=>true
 | .tup ds=>ds.all Pu
 |_=>false
theorem ES (r:D)(e:R)(k:D→R):Tg r e k=bif ER r then k r else e:=by
 cases r<;>try rfl
 exact k6 _ _ _
theorem sW:∀{vs:List D},vs.all Pu=true→dids.didsL vs=[]
 |[],_=>rfl
 |d::r,h=>by
  simp only[List.all_cons,lδ]at h;cases d<;>simp only[Pu,Bool.false_eq_true,false_and]at h;simp only[dids.didsL,dids,sW h.2,mθ]
theorem zQ (σ:Nat→Option Nat):∀{vs:List D},vs.all Pu=true→mapD.mapDL σ vs=vs
 |[],_=>rfl
 |d::r,h=>by
  simp only[List.all_cons,lδ]at h;cases d<;>simp only[Pu,Bool.false_eq_true,false_and]at h;simp only[mapD.mapDL,mapD,zQ σ h.2]
theorem zR (σ:Nat→Option Nat){d:D}(h:ER d=true):mapD σ d=d:=by
 cases d<;>simp only[ER,Bool.false_eq_true]at h
 ·rfl
 ·simp only[mapD,zQ σ h]
theorem zU:∀{vs:List D},vs.all Pu=true→vs.map norm=vs
 |[],_=>rfl
 |d::r,h=>by
  simp only[List.all_cons,lδ]at h;cases d<;>simp only[Pu,Bool.false_eq_true,false_and]at h;simp only[List.map_cons,norm,zU h.2]
def Yk (call:aJ)(f:Nat)(args:List D)(e:R)(k:D→R):R:=
 caseO (call f args []) none fun ro=>Prod.rec (motive:=fun _=>R) (fun r out=>List.rec (motive:=fun _=>R) (Tg r e k) (fun _ _ _=>e) out) ro
def G1 (call:aJ)(f:Nat)(raw:Bool)(vs:List D)(hp:List Ob)(e:R)(k:D→R):R:=
 sj vs e fun vs=>Yk call f vs e k
theorem AG {call:aJ}{f:Nat}{vs:List D}{len:Nat}(h:vs.all Pu=true):eI call f vs [] [] len=match call f vs []with
  |none=>none
  |some (r,out)=>some (mapD (back 0 len [] out.length) r,[],out.map (cq (back 0 len [] out.length))):=by
 unfold eI;rw[zQ _ h];show(match call f vs []with|none=>none|some (r,out)=>_)=_;cases call f vs []with
 |none=>rfl
 |some p=>obtain⟨r,out⟩:=p;simp[Nat.ble]
abbrev KF:=D→List Ob→eq→R
section eqs
variable {call:aJ} {base kk:Nat} {hp:List Ob} {k:KV}
theorem sV (hp:List Ob)(n:Nat)(acc:List Nat):co hp n [] acc=acc:=by cases n<;>rfl
theorem UX {f:Nat}{raw:Bool}{vs:List D}(h:vs.all Pu=true):dA call base (.call f raw) kk vs hp k=match call f vs []with
  |none=>none
  |some (r,out)=>k (mapD (back 0 hp.length [] out.length) r) (grow hp (out.map (cq (back 0 hp.length [] out.length)))):=by
 have hn:bM (.call f raw) vs hp=[]:=by simp only[bM,sW h,sV]
 have ha:(bif raw then vs else vs.map norm)=vs:=by cases raw<;>simp[zU h]
 simp only[dA,cX,Bool.not_false,Bool.true_or,cond_true,hn,List.map_nil,qf,ha,AG h];cases call f vs []with
 |none=>rfl
 |some p=>rfl
theorem Yl (f:Nat)(raw:Bool)(vs:List D):dA call base (.call f raw) kk vs hp k=G1 call f raw vs hp (dA call base (.call f raw) kk vs hp k) fun v=>k v hp:=by
 unfold G1;rw[k6];cases h:vs.all Pu
 ·rfl
 ·rw[cond_true,UX h];unfold Yk;cases hc:call f vs []with
  |none=>rfl
  |some p=>
   obtain⟨r,out⟩:=p;cases out with
   |cons o out=>rfl
   |nil=>
    simp only[caseO,ES];cases hr:ER r
    ·rfl
    ·simp only[cond_true,List.length_nil,List.map_nil];rw[zR _ hr];rfl
end eqs
def G2 (call:aJ)(f:Nat)(raw:Bool)(vs:List D)(hp:List Ob)(k:KF):R:=
 forceNs (hZ hp bp (gt vs []) []) fun ids=>
  forceDs (gw (li ids) (Bool.rec (motive:=fun _=>List D) (vs.map norm) vs raw)) fun args=>forceHb (qv ids hp) fun hp'=>
   caseO (call f args hp') none fun ro=>Prod.rec (motive:=fun _=>R) (fun r out=>vI (Nat.ble ids.length out.length)
    (ib (jA (back ids.length hp.length ids out.length) r) fun v=>forceHb (qO (back ids.length hp.length ids out.length) out) fun out'=>
     forceHb (grow (az hp (ids.zip out')) (out'.drop ids.length)) fun hp2=>k v hp2 ⟨ids,og ids hp (ids.zip out'),!(out'.drop ids.length).isEmpty,hp.length⟩) none) ro
theorem ML {call:aJ}{base kk:Nat}{hp:List Ob}{k:KF}(f:Nat)(raw:Bool)(vs:List D):G2 call f raw vs hp k=bif !(cX (.call f raw))||cO (aZ hp (base+kk))then
  match qf call base (.call f raw) kk vs (bM (.call f raw) vs hp) ((bM (.call f raw) vs hp).map (aZ hp)) hp.length with
  |none=>none
  |some (v,ups,new)=>k v (grow (az hp ups) new) ⟨bif cX (.call f raw)then(base+kk)::bM (.call f raw) vs hp else bM (.call f raw) vs hp,og (bM (.call f raw) vs hp) hp ups,!new.isEmpty,hp.length⟩
 else none:=by
 have hn:bM (.call f raw) vs hp=co hp bp (dids.didsL vs) []:=rfl;simp only[G2,mL,ic,mJ,jX,fg,ga,mθ,j1,lN,mW,gS,pb,ig,cX,Bool.not_false,Bool.true_or,cond_true,cond_false,qf,eI,hn];have e:(List.map (cq (idx (co hp bp (dids.didsL vs) []))) (List.map (aZ hp) (co hp bp (dids.didsL vs) [])))=cd (co hp bp (dids.didsL vs) []) hp:=by
  simp only[cd,List.map_map];rfl
 have e2:(bif raw then vs else List.map norm vs)=Bool.rec (motive:=fun _=>List D) (vs.map norm) vs raw:=by cases raw<;>rfl
 rw[e,e2];cases call f (mapD.mapDL (idx (co hp bp (dids.didsL vs) [])) (Bool.rec (motive:=fun _=>List D) (vs.map norm) vs raw)) (cd (co hp bp (dids.didsL vs) []) hp)with
 |none=>rfl
 |some p=>
  obtain⟨r,out⟩:=p;simp only[caseO];cases Nat.ble (co hp bp (dids.didsL vs) []).length out.length<;>rfl
def Sb (call:aJ)(f:Nat)(raw:Bool)(vs:List D)(hp:List Ob)(k:KV):R:=
 G1 call f raw vs hp (G2 call f raw vs hp fun v hp _=>k v hp) fun v=>k v hp
theorem Yi {call:aJ}{base kk:Nat}{hp:List Ob}{k:KV}(f:Nat)(raw:Bool)(vs:List D):dA call base (.call f raw) kk vs hp k=Sb call f raw vs hp k:=by
 rw[Yl];unfold Sb;rw[ML (base:=base) (kk:=kk)];rfl
def iaG (esz:Nat)(x i:D)(k:D→R):R:=iaK esz x i (lh (R0 esz [x,i]) k) k
def faG (off:Nat)(x:D)(k:D→R):R:=faK off x (lh (aFa off [x]) k) k
def ZT (x:D)(k:D→R):R:=ZU x (lh (uV [x]) k) k
def ahd (kd:Nat)(x:D)(hp:List Ob)(k:D→R):R:=afC kd x (lh (UG kd [x] (bM (.len kd) [x] hp) ((bM (.len kd) [x] hp).map (aZ hp))) k) k
def ZB (x:D)(hp:List Ob)(k:D→R):R:=JY x hp (lh (iu 1 false [x] ((dids x).map (aZ hp))) k) k
def adF (o:O)(vs:List D)(hp:List Ob):eq:=⟨bM o vs hp,[],false,hp.length⟩
def agX (hp:List Ob):eq:=⟨[],[],false,hp.length⟩
def Vt (call:aJ)(base:Nat)(o:O)(kk:Nat)(vs:List D)(hp:List Ob)(k:KV):R:=
 match o,vs with
 | .mv,[a]=>k a hp
 | .pick,[c,a,b]=>Z3 c a b fun v=>k v hp
 | .bin op,[x,y]=>aa3 op x y fun v=>k v hp
 | .un .not,[x]=>afN x fun v=>k v hp
 | .ia esz,[x,i]=>iaG esz x i fun v=>k v hp
 | .ix,[x,i]=>ixK x i fun v=>k v hp
 | .fa off,[x]=>faG off x fun v=>k v hp
 | .nilck,[x]=>ZT x fun v=>k v hp
 | .ext i,[x]=>ab1 i x fun v=>k v hp
 | .len kd,[x]=>ahd kd x hp fun v=>k v hp
 | .load 1 false,[x]=>ZB x hp fun v=>k v hp
 | .call f raw,vs=>Sb call f raw vs hp k
 | .alloc zs,[]=>IV base kk zs hp k
 | .box n,[d]=>abc base n kk d hp k
 | .store n,[a,d]=>Li call base n kk a d hp k
 | .slStr lo hi,x::xs=>Lf lo hi x xs fun v=>k v hp
 | .load n agg,[x]=>adS n agg x hp fun v=>k v hp
 | .fld off n agg,[x]=>Y9 off n agg x fun v=>k v hp
 | .build zs ps,vs=>I0 zs ps vs fun v=>k v hp
 | .app esz bytes,[a,b]=>aaY call base esz bytes kk a b hp k
 | .bsl esz z 1 [0],[d]=>XQ call base esz z kk d hp k
 |o,vs=>match pn o with
  |true=>dA call base o kk vs hp k
  |false=>Zd call base o kk vs hp k
theorem Zo (call:aJ)(base:Nat)(o:O)(kk:Nat)(vs:List D)(hp:List Ob)(k:KV):Vt call base o kk vs hp k=dA call base o kk vs hp k:=by
 unfold Vt;split
 ·rfl
 ·exact(Z6 _ _ _).symm
 ·exact(aa7 _ _ _).symm
 ·exact(acG _).symm
 ·exact(afp _ _ _).symm
 ·exact(afv _ _).symm
 ·exact(afi _ _).symm
 ·exact(VI _).symm
 ·exact(ab2 _ _).symm
 ·exact(acp _ _).symm
 ·exact(VA _).symm
 ·exact(Yi _ _ _).symm
 ·exact(UH _).symm
 ·exact(abd _ _).symm
 ·exact V4 _ _ _ _ _ _ _ _
 ·exact(V0 _ _ _ _).symm
 ·exact(ZE _ _ _).symm
 ·exact(ab5 _ _ _ _).symm
 ·exact(UO _ _ _).symm
 ·exact aaZ _ _ _ _ _ _ _ _ _
 ·exact XR _ _ _ _ _ _ _ _
 ·split
  ·rfl
  ·exact Jo _ _ _ _ _ _ _
def Jn (call:aJ)(base:Nat)(o:O)(kk:Nat)(vs:List D)(hp:List Ob)(k:KF):R:=
 bif !(cX o)||cO (aZ hp (base+kk))then
  match qf call base o kk vs (bM o vs hp) ((bM o vs hp).map (aZ hp)) hp.length with
  |none=>none
  |some (v,ups,new)=>k v (grow (az hp ups) new) ⟨bif cX o then(base+kk)::bM o vs hp else bM o vs hp,og (bM o vs hp) hp ups,!new.isEmpty,hp.length⟩
 else none
def MI (call:aJ)(f:Nat)(raw:Bool)(vs:List D)(hp:List Ob)(k:KF):R:=
 G1 call f raw vs hp (G2 call f raw vs hp k) fun v=>k v hp (agX hp)
theorem Yh {call:aJ}{base kk:Nat}{hp:List Ob}{k:KF}(f:Nat)(raw:Bool)(vs:List D):Jn call base (.call f raw) kk vs hp k=MI call f raw vs hp k:=by
 unfold MI G1;rw[k6,ML (base:=base) (kk:=kk)];cases h:vs.all Pu
 ·rfl
 ·have hn:bM (.call f raw) vs hp=[]:=by simp only[bM,sW h,sV]
  have ha:(bif raw then vs else vs.map norm)=vs:=by cases raw<;>simp[zU h]
  rw[cond_true];simp only[Jn,cX,Bool.not_false,Bool.true_or,cond_true,cond_false,hn,List.map_nil,qf,ha,AG h];unfold Yk;cases hc:call f vs []with
  |none=>rfl
  |some p=>
   obtain⟨r,out⟩:=p;cases out with
   |cons o out=>rfl
   |nil=>
    simp only[caseO,ES];cases hr:ER r
    ·rfl
    ·simp only[cond_true,List.length_nil,List.map_nil];rw[zR _ hr];rfl
def Bv (call:aJ)(base:Nat)(o:O)(kk:Nat)(vs:List D)(hp:List Ob)(k:KF):R:=
 match o with
 | .call f raw=>MI call f raw vs hp k
 |o=>match pn o with
  |true=>Vt call base o kk vs hp fun v hp'=>k v hp' (adF o vs hp)
  |false=>Jn call base o kk vs hp k
theorem aci (call:aJ)(base:Nat)(o:O)(kk:Nat)(vs:List D)(hp:List Ob)(k:KF):Bv call base o kk vs hp k=Jn call base o kk vs hp k:=by
 unfold Bv;split
 ·exact(Yh _ _ _).symm
 ·split
  ·rename_i hs;rw[Zo,ct hs];have hq:=AT (call:=call) (base:=base) (kk:=kk) (vs:=vs) (ids:=bM o vs hp) (obs:=(bM o vs hp).map (aZ hp)) (len:=hp.length) hs;simp only[Jn,AS hs,Bool.not_false,Bool.true_or,cond_true,cond_false];cases ha:qf call base o kk vs (bM o vs hp) ((bM o vs hp).map (aZ hp)) hp.length with
   |none=>rfl
   |some e=>
    obtain⟨v,ups,new⟩:=e;have:=hq _ ha;simp only[lε]at this;obtain⟨rfl,rfl⟩:=this;rfl
  ·rfl
def Jp (d:D)(want:Bool)(t e:R):R:=
 D.rec (motive_1:=fun _=>R) (motive_2:=fun _=>PUnit.{1})
  (fun x=>wA x none (Bool.rec (motive:=fun _=>R) e t want) (Bool.rec (motive:=fun _=>R) t e want))
  (fun _ _=>none) (fun ds _=>List.rec (motive:=fun _=>R) e (fun _ _ _=>none) ds) (fun _ _=>none) (fun _ _ _=>none) (fun _ _=>none) (fun _ _ _ _=>none) (fun _ _ _=>none) (fun _=>none) (fun _ _ _=>none) (fun _ _ _=>none) none ⟨⟩ (fun _ _ _ _=>⟨⟩) d
def Jq (d:D)(want:Bool):Option Bool:=
 match d with
 | .p (.bool b)=>some (b==want)
 | .tup []=>some false
 |_=>none
theorem Hf (d:D)(want:Bool)(t e:R):Jp d want t e=match Jq d want with
  |none=>none
  |some true=>t
  |some false=>e:=by
 cases d<;>try rfl
 ·rename_i x;cases x<;>try rfl
  rename_i b;cases b<;>cases want<;>rfl
 ·rename_i ds;cases ds<;>rfl
theorem wY {x:eQ}(tm:Tm)(h:x.gd=none):dD x tm=some true:=by simp[dD,h]
theorem wZ {x:eQ}(tm:Tm){g:Nat}{w:Bool}(h:x.gd=some (g,w)):dD x tm=Jq (get tm g) w:=by
 unfold dD;rw[h];rfl
def gG (d:D)(want:Bool)(run:KV→R)(hp:List Ob)(k:KV):R:=Jp d want (run k) (k (.tup []) hp)
def gF (d:D)(want:Bool)(run:KF→R)(hp:List Ob)(k:KF):R:=Jp d want (run k) (k (.tup []) hp ⟨[],[],false,0⟩)
def gdO (gd:Option (Nat×Bool))(tm:Tm)(run:KV→R)(hp:List Ob)(k:KV):R:=
 match gd with
 |none=>run k
 |some (g,w)=>gG (rX tm g) w run hp k
def gdF (gd:Option (Nat×Bool))(tm:Tm)(run:KF→R)(hp:List Ob)(k:KF):R:=
 match gd with
 |none=>run k
 |some (g,w)=>gF (rX tm g) w run hp k
def xk (tm:Tm)(as:List A):List D:=List.rec (motive:=fun _=>List D) [] (fun a _ ih=>evA tm a::ih) as
theorem J0 (tm:Tm):∀as,xk tm as=as.map (ev tm)
 |[]=>rfl
 |a::r=>by
  show evA tm a::xk tm r=_;rw[Y2,J0 tm r];rfl
def Ju (call:aJ)(base:Nat)(ops:List eQ):Tm→List Ob→K→R:=
 List.rec (motive:=fun _=>Tm→List Ob→K→R) (fun tm hp k=>k tm hp)
  (fun x _ ih tm hp k=>gdO x.gd tm (fun k=>Vt call base x.op x.k (xk tm x.as) hp k) hp fun v hp=>ih (put x.dst v tm) hp k) ops
theorem SI (call:aJ)(base:Nat):∀(ops:List eQ) (tm:Tm) (hp:List Ob) (k:K),Ju call base ops tm hp k=match nW call base ops ⟨tm,hp⟩with
  |none=>none
  |some st=>k st.tm st.hp
 |[],tm,hp,k=>rfl
 |x::r,tm,hp,k=>by
  have step:∀v hp',Ju call base r (put x.dst v tm) hp' k=match nW call base r ⟨put x.dst v tm,hp'⟩with
   |none=>none
   |some st=>k st.tm st.hp:=fun v hp'=>SI call base r _ _ _
  have run:(Vt call base x.op x.k (xk tm x.as) hp fun v hp=>Ju call base r (put x.dst v tm) hp k)=match (match tD call base x ⟨tm,hp⟩with
    |none=>none
    |some (st',_)=>nW call base r st')with
   |none=>none
   |some st=>k st.tm st.hp:=by
   rw[Zo,J0];simp only[dA,tD,ada,ZS];cases(!(cX x.op)||cO (aZ hp (base+x.k)))
   ·rfl
   ·simp only[cond_true];cases qf call base x.op x.k (x.as.map (ev tm)) (bM x.op (x.as.map (ev tm)) hp) ((bM x.op (x.as.map (ev tm)) hp).map (aZ hp)) hp.length with
    |none=>rfl
    |some e=>
     obtain⟨v,ups,new⟩:=e;exact step _ _
  show gdO x.gd tm (fun k=>Vt call base x.op x.k (xk tm x.as) hp k) hp (fun v hp=>Ju call base r (put x.dst v tm) hp k)=_;simp only[nW,gdO];cases hg:x.gd with
  |none=>rw[wY tm hg];exact run
  |some p=>
   obtain⟨g,w⟩:=p;rw[wZ tm hg];simp only[gG,Hf,hT];cases Jq (get tm g) w with
   |none=>rfl
   |some b=>
    cases b
    ·exact step _ _
    ·exact run
def w8 (call:aJ)(base:Nat)(ops:List eQ):Tm→List Ob→List eq→(Tm→List Ob→List eq→R)→R:=
 List.rec (motive:=fun _=>Tm→List Ob→List eq→(Tm→List Ob→List eq→R)→R) (fun tm hp fs k=>k tm hp fs.reverse)
  (fun x _ ih tm hp fs k=>gdF x.gd tm (fun k=>Bv call base x.op x.k (xk tm x.as) hp k) hp fun v hp f=>ih (put x.dst v tm) hp (f::fs) k) ops
theorem Nq (call:aJ)(base:Nat):∀(ops:List eQ) (tm:Tm) (hp:List Ob) (fs:List eq) (k:Tm→List Ob→List eq→R),w8 call base ops tm hp fs k=match ei call base ops ⟨tm,hp⟩ fs with
  |none=>none
  |some (st,fs)=>k st.tm st.hp fs
 |[],tm,hp,fs,k=>rfl
 |x::r,tm,hp,fs,k=>by
  have step:∀v hp' f,w8 call base r (put x.dst v tm) hp' (f::fs) k=match ei call base r ⟨put x.dst v tm,hp'⟩ (f::fs)with
   |none=>none
   |some (st,fs)=>k st.tm st.hp fs:=fun v hp' f=>Nq call base r _ _ _ _
  have run:(Bv call base x.op x.k (xk tm x.as) hp fun v hp f=>w8 call base r (put x.dst v tm) hp (f::fs) k)=match (match tD call base x ⟨tm,hp⟩with
    |none=>none
    |some (st',f)=>ei call base r st' (f::fs))with
   |none=>none
   |some (st,fs)=>k st.tm st.hp fs:=by
   rw[aci,J0];simp only[Jn,tD,ada,ZS];cases(!(cX x.op)||cO (aZ hp (base+x.k)))
   ·rfl
   ·simp only[cond_true];cases qf call base x.op x.k (x.as.map (ev tm)) (bM x.op (x.as.map (ev tm)) hp) ((bM x.op (x.as.map (ev tm)) hp).map (aZ hp)) hp.length with
    |none=>rfl
    |some e=>
     obtain⟨v,ups,new⟩:=e;exact step _ _ _
  show gdF x.gd tm (fun k=>Bv call base x.op x.k (xk tm x.as) hp k) hp (fun v hp f=>w8 call base r (put x.dst v tm) hp (f::fs) k)=_;simp only[ei,gdF];cases hg:x.gd with
  |none=>rw[wY tm hg];exact run
  |some p=>
   obtain⟨g,w⟩:=p;rw[wZ tm hg];simp only[gF,Hf,hT];cases Jq (get tm g) w with
   |none=>rfl
   |some b=>
    cases b
    ·exact step _ _ _
    ·exact run
end
end Go.Ab
end
section
namespace Go.Ab
open Go
abbrev Sem:=aJ→Nat→Nat→Tm→List Ob→K→(Nat→K)→K→R
noncomputable section
def Sh (d:D)(t e:R):R:=gO d none fun x=>wA x none t e
def mQ (out:List Nat)(tm:Tm):Tm:=List.rec (motive:=fun _=>Tm) .nil (fun s _ ih=> .cons s (rX tm s) ih) out
theorem Ee (tm:Tm):∀out,mQ out tm=fi out id tm
 |[]=>rfl
 |s::r=>by
  show Tm.cons s (rX tm s) (mQ r tm)=_;rw[hT,Ee tm r];rfl
def wX (nal:Nat)(hp:List Ob):List Ob:=Nat.rec (motive:=fun _=>List Ob) hp (fun n _=>grow hp (List.replicate (n+1) .unborn)) nal
theorem Ni (nal:Nat)(hp:List Ob):wX nal hp=grow hp (List.replicate nal .unborn):=by cases nal<;>rfl
def Jm (d:D)(e:R)(k:D→R):R:=
 D.rec (motive_1:=fun _=>R) (motive_2:=fun _=>PUnit.{1})
  (fun x=>ta x fun x=>k (.p x)) (fun _ _=>e) (fun _ _=>e) (fun _ _=>e) (fun _ _ _=>e) (fun x off=>k (.ip x off))
  (fun _ _ _ _=>e) (fun g z es=>k (.sl g z es)) (fun _=>e) (fun _ _ _=>e) (fun _ _ _=>e) (k .junk) ⟨⟩ (fun _ _ _ _=>⟨⟩) d
def mP:D→Bool
 | .p _=>true
 | .ip _ _=>true
 | .sl _ _ _=>true
 | .junk=>true
 |_=>false
theorem Vo (d:D)(e:R)(k:D→R):Jm d e k=bif mP d then k d else e:=by
 cases d<;>try rfl
 simp only[Jm,vh,mP,cond_true]
def KA (live:List Nat)(tm:Tm)(e:R)(k:Tm→R):R:=
 List.rec (motive:=fun _=>(Tm→R)→R) (fun k=>k .nil) (fun s _ ih k=>Jm (rX tm s) e fun d=>ih fun r=>k (.cons s d r)) live k
theorem HG (tm:Tm)(e:R):∀(live:List Nat) (k:Tm→R),KA live tm e k=bif live.all (fun s=>mP (get tm s))then k (fi live id tm)else e
 |[],k=>rfl
 |s::r,k=>by
  show Jm (rX tm s) e (fun d=>KA r tm e fun r=>k (.cons s d r))=_;rw[Vo,HG tm e r,hT];simp only[List.all_cons,fi,id];cases mP (get tm s)<;>rfl
def ghK (m:Nat)(g:Gh)(tm:Tm)(hp:List Ob)(k:K):R:=caseO (m7 m g ⟨tm,hp⟩) none fun st=>forceTm st.tm fun tm=>forceHb st.hp fun hp=>k tm hp
theorem afl (m:Nat)(g:Gh)(tm:Tm)(hp:List Ob)(k:K):ghK m g tm hp k=caseO (m7 m g ⟨tm,hp⟩) none fun st=>k st.tm st.hp:=by
 unfold ghK;congr 1;funext st;rw[vi,mJ]
def JX (live:List Nat)(tm:Tm)(ws:List Nat):List Nat:=List.rec (motive:=fun _=>List Nat) ws (fun s _ ih=>G4 (rX tm s) ih) live
theorem Es (tm:Tm)(ws:List Nat):∀live,JX live tm ws=dids.didsL (live.map (get tm))++ws
 |[]=>rfl
 |s::r=>by
  show G4 (rX tm s) (JX r tm ws)=_;rw[wI,Es tm ws r,hT];simp only[List.map_cons,dids.didsL,mν]
def Jv (f:D→D)(live:List Nat)(tm:Tm):Tm:=List.rec (motive:=fun _=>Tm) .nil (fun s _ ih=> .cons s (f (rX tm s)) ih) live
theorem Eh (f:D→D)(tm:Tm):∀live,Jv f live tm=fi live f tm
 |[]=>rfl
 |s::r=>by
  show Tm.cons s (f (rX tm s)) (Jv f r tm)=_;rw[hT,Eh f tm r];rfl
def Hh (m:Nat)(live:List Nat)(tm:Tm)(hp:List Ob)(k:K):R:=
 forceNs (hZ hp bp (JX live tm (km m hp)) (List.range m)) fun ids=>
  forceTm (Jv (jA (li ids)) live tm) fun tm=>forceHb (qv ids hp) fun hp=>k tm hp
theorem Eg (m:Nat)(live:List Nat)(tm:Tm)(hp:List Ob)(k:K):Hh m live tm hp k=caseO (m7 m (.keep live) ⟨tm,hp⟩) none fun st=>k st.tm st.hp:=by
 simp only[Hh,mL,vi,mJ,fg,Es,j3,Eh,mW,lN,m7,caseO];have:∀ids,jA (idx ids)=mapD (idx ids):=fun ids=>funext fun d=>gS _ d
 simp only[this]
def Zr (m:Nat)(live:List Nat)(tm:Tm)(hp:List Ob)(k:K):R:=
 List.rec (motive:=fun _=>R) (Nat.rec (motive:=fun _=>R) (KA live tm (Hh m live tm hp k) fun tm=>k tm []) (fun _ _=>Hh m live tm hp k) m) (fun _ _ _=>Hh m live tm hp k) hp
theorem NP (σ:Nat→Option Nat){d:D}(h:mP d=true):mapD σ d=d:=by
 cases d<;>simp_all [mP,mapD]
theorem MV {d:D}(h:mP d=true):dids d=[]:=by
 cases d<;>simp_all [mP,dids]
theorem wJ:∀{ds:List D},ds.all mP=true→dids.didsL ds=[]
 |[],_=>rfl
 |d::r,h=>by
  simp only[List.all_cons,lδ]at h;simp only[dids.didsL,MV h.1,wJ h.2,mθ]
theorem ub (σ:Nat→Option Nat)(tm:Tm):∀{live:List Nat},live.all (fun s=>mP (get tm s))=true→fi live (mapD σ) tm=fi live id tm
 |[],_=>rfl
 |s::r,h=>by
  simp only[List.all_cons,lδ]at h;simp only[fi,NP σ h.1,ub σ tm h.2,id]
theorem Zs (m:Nat)(live:List Nat)(tm:Tm)(hp:List Ob)(k:K):Zr m live tm hp k=caseO (m7 m (.keep live) ⟨tm,hp⟩) none fun st=>k st.tm st.hp:=by
 cases hp with
 |cons o r=>exact Eg _ _ _ _ _
 |nil=>
  cases m with
  |succ m=>exact Eg _ _ _ _ _
  |zero=>
   show KA live tm (Hh 0 live tm [] k) (fun tm=>k tm [])=_;rw[HG,Eg];cases h:live.all (fun s=>mP (get tm s))
   ·rfl
   ·have hd:dids.didsL (live.map (get tm))=[]:=wJ (by rw[List.all_map];exact h);simp only[cond_true,m7,hd,List.take_nil,List.flatMap_nil,mθ,sV,caseO];rw[ub _ tm h];rfl
def Ho (m:Nat)(live:List Nat)(body:Tm→List Ob→K→R)(fuel:Nat)(tm:Tm)(hp:List Ob):R:=
 Nat.rec (motive:=fun _=>Tm→List Ob→R) (fun _ _=>none) (fun _ ih tm hp=>Zr m live tm hp fun tm hp=>body tm hp ih) fuel tm hp
def adZ:Sem:=fun _ _ _ tm hp kn _ _=>kn tm hp
def aho:Sem:=fun _ _ _ tm hp _ _ kr=>kr tm hp
def adD (id:Nat):Sem:=fun _ _ _ tm hp _ ke _=>ke id tm hp
def air (a b:Sem):Sem:=fun c n m tm hp kn ke kr=>a c n m tm hp (fun tm hp=>b c n m tm hp kn ke kr) ke kr
def agN (x:A)(t e:Sem):Sem:=fun c n m tm hp kn ke kr=>Sh (evA tm x) (t c n m tm hp kn ke kr) (e c n m tm hp kn ke kr)
def aeu (id:Nat)(b:Sem):Sem:=fun c n m tm hp kn ke kr=>b c n m tm hp kn (fun i tm hp=>vI (Nat.beq i id) (kn tm hp) (ke i tm hp)) kr
def ahf (live:List Nat)(b:Sem):Sem:=fun c n m tm hp _ ke kr=>Ho m live (fun tm hp k=>b c n m tm hp k ke kr) n tm hp
def ghS (g:Gh)(b:Sem):Sem:=fun c n m tm hp kn ke kr=>ghK m g tm hp fun tm hp=>b c n m tm hp kn ke kr
def aip (nal:Nat)(f:aJ→Nat→Tm→List Ob→K→R):Sem:=fun c _ _ tm hp kn _ _=>f c hp.length tm (wX nal hp) kn
def aio (nal:Nat)(ps:List (Nat×Nat))(f:aJ→Nat→Tm→List Ob→(Tm→List Ob→List eq→R)→R):Sem:=fun c _ _ tm hp kn _ _=>f c hp.length tm (wX nal hp) fun tm hp fs=>vI (fP fs ps) (kn tm hp) none
def ahn (nal:Nat)(ops:List eQ)(prs:Option (List (Nat×Nat)))(out:List Nat):Sem:=
 match prs with
 |none=>aip nal fun call base tm hp k=>Ju call base ops tm hp fun tm hp=>k (mQ out tm) hp
 |some ps=>aio nal ps fun call base tm hp k=>w8 call base ops tm hp [] fun tm hp fs=>k (mQ out tm) hp fs
def U9 (c:Co):Sem:=
 Co.rec (motive:=fun _=>Sem) adZ (fun nal ops prs out=>ahn nal ops prs out) (fun _ _ a b=>air a b) (fun c _ _ t e=>agN c t e) (fun id _ b=>aeu id b) (fun live _ b=>ahf live b) (fun id=>adD id) aho (fun g _ c=>ghS g c) c
def Gj (r:Option (Ex×St))(kn:K)(ke:Nat→K)(kr:K):R:=
 match r with
 |none=>none
 |some (.norm,st)=>kn st.tm st.hp
 |some (.exit i,st)=>ke i st.tm st.hp
 |some (.ret,st)=>kr st.tm st.hp
theorem NM {m:Nat}{live:List Nat}{body:St→Option (Ex×St)}{bodyK:Tm→List Ob→K→(Nat→K)→K→R}{ke:Nat→K}{kr kn:K}(hb:∀tm hp kn,bodyK tm hp kn ke kr=Gj (body ⟨tm,hp⟩) kn ke kr):∀(fuel:Nat) (tm:Tm) (hp:List Ob),Ho m live (fun tm hp k=>bodyK tm hp k ke kr) fuel tm hp=Gj (zH m body live fuel ⟨tm,hp⟩) kn ke kr
 |0,tm,hp=>rfl
 |n+1,tm,hp=>by
  show Zr m live tm hp (fun tm hp=>bodyK tm hp (Ho m live (fun tm hp k=>bodyK tm hp k ke kr) n) ke kr)=_;rw[Zs];simp only[zH];cases m7 m (.keep live) ⟨tm,hp⟩with
  |none=>rfl
  |some st=>
   show bodyK st.tm st.hp (Ho m live (fun tm hp k=>bodyK tm hp k ke kr) n) ke kr=_;rw[hb];show Gj (body st) _ ke kr=Gj (match body st with
    |some (.norm,st')=>zH m body live n st'
    |r=>r) kn ke kr
   cases body st with
   |none=>rfl
   |some p=>
    obtain⟨ex,st'⟩:=p;cases ex with
    |norm=>exact NM hb n _ _
    |exit i=>rfl
    |ret=>rfl
theorem rP (call:aJ)(fuel m:Nat):∀(c:Co) (tm:Tm) (hp:List Ob) (kn:K) (ke:Nat→K) (kr:K),U9 c call fuel m tm hp kn ke kr=Gj (cN call fuel m c ⟨tm,hp⟩) kn ke kr
 | .skip,tm,hp,kn,ke,kr=>rfl
 | .ret,tm,hp,kn,ke,kr=>rfl
 | .exit i,tm,hp,kn,ke,kr=>rfl
 | .reg nal ops none out,tm,hp,kn,ke,kr=>by
  show Ju call hp.length ops tm (wX nal hp) (fun tm hp=>kn (mQ out tm) hp)=_;rw[SI,Ni];simp only[cN,AI];cases nW call hp.length ops ⟨tm,grow hp (List.replicate nal .unborn)⟩with
  |none=>rfl
  |some st=>simp only[Gj,Ee]
 | .reg nal ops (some ps) out,tm,hp,kn,ke,kr=>by
  show w8 call hp.length ops tm (wX nal hp) [] (fun tm hp fs=>vI (fP fs ps) (kn (mQ out tm) hp) none)=_;rw[Nq,Ni];simp only[cN,AI];cases ei call hp.length ops ⟨tm,grow hp (List.replicate nal .unborn)⟩ []with
  |none=>rfl
  |some p=>
   obtain⟨st,fs⟩:=p;simp only[ig];cases fP fs ps
   ·rfl
   ·simp only[Gj,cond_true,Ee]
 | .seq a b,tm,hp,kn,ke,kr=>by
  show U9 a call fuel m tm hp (fun tm hp=>U9 b call fuel m tm hp kn ke kr) ke kr=_;rw[rP call fuel m a];simp only[cN];cases cN call fuel m a ⟨tm,hp⟩with
  |none=>rfl
  |some p=>
   obtain⟨ex,st⟩:=p;cases ex with
   |norm=>exact rP call fuel m b _ _ _ _ _
   |exit i=>rfl
   |ret=>rfl
 | .cond c t e,tm,hp,kn,ke,kr=>by
  show Sh (evA tm c) (U9 t call fuel m tm hp kn ke kr) (U9 e call fuel m tm hp kn ke kr)=_;rw[rP call fuel m t,rP call fuel m e,Y2];simp only[cN];cases ev tm c<;>try rfl
  rename_i x;cases x<;>try rfl
  rename_i b;cases b<;>rfl
 | .block id b,tm,hp,kn,ke,kr=>by
  show U9 b call fuel m tm hp kn (fun i tm hp=>vI (Nat.beq i id) (kn tm hp) (ke i tm hp)) kr=_;rw[rP call fuel m b];simp only[cN];cases cN call fuel m b ⟨tm,hp⟩with
  |none=>rfl
  |some p=>
   obtain⟨ex,st⟩:=p;cases ex with
   |norm=>rfl
   |ret=>rfl
   |exit i=>
    simp only[Gj,ig];cases Nat.beq i id<;>rfl
 | .loop live b,tm,hp,kn,ke,kr=>NM (fun tm hp kn=>rP call fuel m b tm hp kn ke kr) fuel tm hp
 | .gh g c,tm,hp,kn,ke,kr=>by
  show ghK m g tm hp (fun tm hp=>U9 c call fuel m tm hp kn ke kr)=_;rw[afl];simp only[cN];cases m7 m g ⟨tm,hp⟩with
  |none=>rfl
  |some st=>exact rP call fuel m c _ _ _ _ _
theorem He (hp:List Ob):∀{ds:List D},ds.all Pu=true→tE hp ds=(ds,hp)
 |[],_=>rfl
 |d::r,h=>by
  simp only[List.all_cons,lδ]at h;cases d<;>simp only[Pu,Bool.false_eq_true,false_and]at h;have e:tE hp r=(r,hp):=He hp h.2;simp only[tE,dids,List.map_nil,pur,dz,az,e]
def QN (m:Nat)(ds:List D)(hp:List Ob):R:=
 forceNs (hZ hp bp (gt ds (km m hp)) (List.range m)) fun ids=>rV (jA (li ids) (one ds)) fun r=>forceHb (qv ids hp) fun out=>some (r,out)
def Vm (m:Nat)(fz:Bool)(ds:List D)(hp:List Ob):R:=
 sj ds (Bool.rec (motive:=fun _=>R) (QN m ds hp) (Prod.rec (motive:=fun _=>R) (fun ds hp=>QN m ds hp) (tE hp ds)) fz)
  fun ds=>Nat.rec (motive:=fun _=>R) (some (one ds,[])) (fun _ _=>QN m ds hp) m
theorem Jj (m:Nat)(ds:List D)(hp:List Ob):QN m ds hp=some (mapD (idx (co hp bp (dids.didsL ds++(hp.take m).flatMap ls) (List.range m))) (one ds),cd (co hp bp (dids.didsL ds++(hp.take m).flatMap ls) (List.range m)) hp):=by
 simp only[QN,mL,Vp,mJ,fg,ga,j3,gS,lN,mW]
theorem Cc (m:Nat)(fz:Bool)(ds:List D)(hp:List Ob):Vm m fz ds hp=some (fin m fz ds hp):=by
 unfold Vm;rw[k6];cases h:ds.all Pu
 ·cases fz with
  |false=>exact Jj m ds hp
  |true=>
   show Prod.rec (motive:=fun _=>R) (fun ds hp=>QN m ds hp) (tE hp ds)=_;simp only[fin,cond_true];cases tE hp ds;exact Jj _ _ _
 ·have e:(bif fz then tE hp ds else(ds,hp))=(ds,hp):=by cases fz<;>simp[He hp h]
  cases m with
  |succ m=>
   show QN (m+1) ds hp=_;rw[Jj];simp only[fin,e]
  |zero=>
   have hp1:ER (one ds)=true:=by
    unfold one;split
    ·rename_i d;simp only[List.all_cons,lδ]at h;cases d<;>simp_all [Pu,ER]
    ·exact h
   simp only[cond_true,fin,e,sW h,List.take_zero,List.flatMap_nil,mθ,sV,List.range_zero];rw[zR _ hp1];rfl
def rvK (tm:Tm)(hp:List Ob)(r:Rv)(k:D→R):R:=
 Rv.rec (motive:=fun _=>R) (fun n=>k (rX tm n)) (fun a n agg=>D.rec (motive_1:=fun _=>R) (motive_2:=fun _=>PUnit.{1})
  (fun _=>none) (fun _ _=>none) (fun _ _=>none) (fun id off=>nV (Lw hp id) none fun cs=>RJ cs off n fun ds=>vx agg ds k) (fun _ _ _=>none) (fun _ _=>none) (fun _ _ _ _=>none) (fun _ _ _=>none) (fun _=>none) (fun _ _ _=>none) (fun _ _ _=>none) none ⟨⟩ (fun _ _ _ _=>⟨⟩) (rX tm a)) r
theorem agr (tm:Tm)(hp:List Ob)(r:Rv)(k:D→R):rvK tm hp r k=caseO (M7 ⟨tm,hp⟩ r) none k:=by
 cases r with
 |t n=>simp only[rvK,M7,hT,caseO]
 |cell a n agg=>
  simp only[rvK,M7,hT,oF,xS,ph];cases get tm a<;>try rfl
  rename_i id off;have:aZ hp id=hp.getD id .dead:=rfl;simp only[this];cases hp.getD id .dead<;>try rfl
  rename_i cs;simp only[nV];cases sub cs off n<;>rfl
def VX (tm:Tm)(hp:List Ob)(rs:List Rv)(k:List D→R):R:=
 List.rec (motive:=fun _=>(List D→R)→R) (fun k=>k []) (fun r _ ih k=>rvK tm hp r fun d=>ih fun ds=>k (d::ds)) rs k
theorem Cv (tm:Tm)(hp:List Ob):∀(rs:List Rv) (k:List D→R),VX tm hp rs k=caseO (mH ⟨tm,hp⟩ rs) none k
 |[],k=>rfl
 |r::rs,k=>by
  show rvK tm hp r (fun d=>VX tm hp rs fun ds=>k (d::ds))=_;rw[agr];simp only[Cv tm hp rs,mH];cases M7 ⟨tm,hp⟩ r with
  |none=>rfl
  |some d=>
   simp only[caseO];cases mH ⟨tm,hp⟩ rs<;>rfl
def GC (b:Sem)(call:aJ)(n:Nat)(res:List Rv)(fz:Bool)(args:List D)(hp:List Ob):R:=
 b call n hp.length (fb args 0) hp (fun tm hp'=>VX tm hp' res fun ds=>Vm hp.length fz ds hp') (fun _ _ _=>none) (fun tm hp'=>VX tm hp' res fun ds=>Vm hp.length fz ds hp')
theorem Ct (call:aJ)(fuel:Nat)(x:Fx)(args:List D)(hp:List Ob):GC (U9 x.body) call fuel x.res x.fz args hp=fc call fuel x args hp:=by
 unfold GC fc sw;simp only[Cv];rw[rP];cases cN call fuel hp.length x.body ⟨fb args 0,hp⟩with
 |none=>rfl
 |some p=>
  obtain⟨ex,st⟩:=p;cases ex with
  |norm=>
   simp only[Gj,Cc];cases mH st x.res<;>rfl
  |ret=>
   simp only[Gj,Cc];cases mH st x.res<;>rfl
  |exit i=>rfl
inductive Hn where
 |code (b:Sem) (res:List Rv) (fz:Bool)
 |prim (g:List Da→Option (D×List Ob))
 |both (g:List Da→Option (D×List Ob)) (b:Sem) (res:List Rv) (fz:Bool)
 |any (g:List D→List Ob→Option (D×List Ob))
def hn (tab:Option Hn)(ih:aJ)(n:Nat)(args:List D)(hp:List Ob):R:=
 Option.rec (motive:=fun _=>R) none (fun h=>Hn.rec (motive:=fun _=>R) (fun b res fz=>GC b ih n res fz args hp) (fun g=>match jH args with
   |some xs=>match hp with
    |[]=>g xs
    |_=>none
   |none=>none) (fun g b res fz=>match jH args with
   |some xs=>match hp with
    |[]=>g xs
    |_=>GC b ih n res fz args hp
   |none=>GC b ih n res fz args hp) (fun g=>g args hp) h) tab
def m6 (tab:Nat→Option Hn)(n:Nat):aJ:=
 Nat.rec (motive:=fun _=>aJ) (fun _ _ _=>none) (fun n ih f args hp=>hn (tab f) ih n args hp) n
def same (a:Option Hn)(b:Option Fn):Prop:=
 match a,b with
 |none,none=>True
 |some (.code g res fz),some (.code x)=>U9 x.body=g∧x.res=res∧x.fz=fz
 |some (.prim g),some (.prim h)=>g=h
 |some (.both g b res fz),some (.both h x)=>g=h∧U9 x.body=b∧x.res=res∧x.fz=fz
 |some (.any g),some (.any h)=>g=h
 |_,_=>False
theorem Y4 {tabH:Nat→Option Hn}{tab:Nat→Option Fn}(h:∀f,same (tabH f) (tab f)):∀n,m6 tabH n=evFn tab n
 |0=>by funext f args hp;rfl
 |n+1=>by
  funext f args hp
  show hn (tabH f) (m6 tabH n) n args hp=_;rw[Y4 h n];have hf:=h f;simp only[evFn,afy];cases h1:tabH f with
  |none=>
   rw[h1]at hf;cases h2:tab f with
   |none=>rfl
   |some x=>rw[h2]at hf;cases x<;>exact hf.elim
  |some a=>
   rw[h1]at hf;cases h2:tab f with
   |none=>rw[h2]at hf;cases a<;>exact hf.elim
   |some x=>
    rw[h2]at hf;cases a with
    |code g res fz=>
     cases x with
     |code x=>
      obtain⟨h3,rfl,rfl⟩:=hf;show GC g (evFn tab n) n x.res x.fz args hp=_;rw[←h3,Ct]
     |prim q=>exact hf.elim
     |both q x=>exact hf.elim
     |any q=>exact hf.elim
    |prim g=>
     cases x with
     |code x=>exact hf.elim
     |prim q=>obtain rfl:g=q:=hf;rfl
     |both q x=>exact hf.elim
     |any q=>exact hf.elim
    |both g b res fz=>
     cases x with
     |code x=>exact hf.elim
     |prim q=>exact hf.elim
     |both q x=>
      obtain⟨rfl,h3,rfl,rfl⟩:=hf;show(match jH args with
       |some xs=>match hp with
        |[]=>g xs
        |_=>GC b (evFn tab n) n x.res x.fz args hp
       |none=>GC b (evFn tab n) n x.res x.fz args hp)=_
      rw[←h3,Ct];rfl
     |any q=>exact hf.elim
    |any g=>
     cases x with
     |code x=>exact hf.elim
     |prim q=>exact hf.elim
     |both q x=>exact hf.elim
     |any q=>obtain rfl:g=q:=hf;rfl
def ace (b:Bool)(x y:Option Hn):Option Hn:=Bool.rec (motive:=fun _=>Option Hn) y x b
theorem Af {b:Bool}{x y:Option Hn}{x' y':Option Fn}(h:same x x')(k:same y y'):same (ace b x y) (bif b then x' else y'):=by
 cases b
 ·exact k
 ·exact h
end
end Go.Ab
end
section
namespace Go.Ab
open Go
noncomputable section
def jT (a b:Bool):Bool:=Bool.rec (motive:=fun _=>Bool) false b a
theorem hD (a b:Bool):jT a b=(a&&b):=by cases a<;>rfl
def ahM (y:Da)(k:IntKind→Int→Bool):Bool:=
 Da.rec (motive_1:=fun _=>Bool) (motive_2:=fun _=>PUnit.{1}) (fun _=>false) (fun i n=>k i n) (fun _=>false) (fun _ _=>false) (fun _ _ _=>false) false (fun _ _=>false) (fun _ _ _ _=>false) false (fun _ _ _=>false) false (fun _ _ _=>false) false (fun _ _ _=>false) (fun _ _=>false) ⟨⟩ (fun _ _ _ _=>⟨⟩) y
def ahO (y:Da)(k:List Nat→Bool):Bool:=
 Da.rec (motive_1:=fun _=>Bool) (motive_2:=fun _=>PUnit.{1}) (fun _=>false) (fun _ _=>false) (fun s=>k s) (fun _ _=>false) (fun _ _ _=>false) false (fun _ _=>false) (fun _ _ _ _=>false) false (fun _ _ _=>false) false (fun _ _ _=>false) false (fun _ _ _=>false) (fun _ _=>false) ⟨⟩ (fun _ _ _ _=>⟨⟩) y
def ahL (y:Da)(k:List Da→Bool):Bool:=
 Da.rec (motive_1:=fun _=>Bool) (motive_2:=fun _=>PUnit.{1}) (fun _=>false) (fun _ _=>false) (fun _=>false) (fun cs _=>k cs) (fun _ _ _=>false) false (fun _ _=>false) (fun _ _ _ _=>false) false (fun _ _ _=>false) false (fun _ _ _=>false) false (fun _ _ _=>false) (fun _ _=>false) ⟨⟩ (fun _ _ _ _=>⟨⟩) y
def aas (y:Da)(k:Nat→List Da→Bool):Bool:=
 Da.rec (motive_1:=fun _=>Bool) (motive_2:=fun _=>PUnit.{1}) (fun _=>false) (fun _ _=>false) (fun _=>false) (fun _ _=>false) (fun z es _=>k z es) false (fun _ _=>false) (fun _ _ _ _=>false) false (fun _ _ _=>false) false (fun _ _ _=>false) false (fun _ _ _=>false) (fun _ _=>false) ⟨⟩ (fun _ _ _ _=>⟨⟩) y
def TK (y:Da)(k:Nat→List Da→Bool):Bool:=
 Da.rec (motive_1:=fun _=>Bool) (motive_2:=fun _=>PUnit.{1}) (fun _=>false) (fun _ _=>false) (fun _=>false) (fun _ _=>false) (fun _ _ _=>false) false (fun _ _=>false) (fun _ _ _ _=>false) false (fun _ _ _=>false) false (fun _ _ _=>false) false (fun z es _=>k z es) (fun _ _=>false) ⟨⟩ (fun _ _ _ _=>⟨⟩) y
def YW (m n:Int):Bool:=Int.rec (motive:=fun _=>Bool) (fun a=>Int.rec (motive:=fun _=>Bool) (fun b=>Nat.beq a b) (fun _=>false) n) (fun a=>Int.rec (motive:=fun _=>Bool) (fun _=>false) (fun b=>Nat.beq a b) n) m
theorem abV {m n:Int}(h:YW m n=true):m=n:=by
 cases m<;>cases n<;>simp only[YW,Bool.false_eq_true]at h
 ·rw[lζ h]
 ·rw[lζ h]
theorem M4:∀{a b:List Nat},aK a b=true→a=b
 |[],[],_=>rfl
 |[],_::_,h=>by simp[aK]at h
 |_::_,[],h=>by simp[aK]at h
 |x::a,y::b,h=>by
  simp only[aK]at h;cases hx:Nat.beq x y
  ·simp[hx]at h
  ·simp only[hx,cond_true]at h;rw[lζ hx,M4 h]
def YV (x:Da):Da→Bool:=
 Da.rec (motive_1:=fun _=>Da→Bool) (motive_2:=fun _=>List Da→Bool)
  (fun _ _=>false) (fun i n y=>ahM y fun j m=>jT (Nat.beq (kc i) (kc j)) (YW n m)) (fun s y=>ahO y fun t=>QM s t) (fun _ ih y=>ahL y ih) (fun z _ ih y=>aas y fun z' es'=>jT (Nat.beq z z') (ih es'))
  (fun _=>false) (fun _ _ _=>false) (fun _ _ _ _ _=>false) (fun _=>false) (fun _ _ _ _=>false) (fun _=>false) (fun _ _ _ _=>false) (fun _=>false) (fun z _ ih y=>TK y fun z' es'=>jT (Nat.beq z z') (ih es')) (fun _ _ _=>false)
  (fun ys=>List.rec (motive:=fun _=>Bool) true (fun _ _ _=>false) ys) (fun _ _ ihd ihr ys=>List.rec (motive:=fun _=>Bool) false (fun y ys _=>jT (ihd y) (ihr ys)) ys) x
def AH (xs:List Da):List Da→Bool:=
 List.rec (motive:=fun _=>List Da→Bool) (fun ys=>List.rec (motive:=fun _=>Bool) true (fun _ _ _=>false) ys) (fun x _ ih ys=>List.rec (motive:=fun _=>Bool) false (fun y ys _=>jT (YV x y) (ih ys)) ys) xs
mutual
theorem Jc:∀(x y:Da),YV x y=true→x=y
 | .bool _,y,h=>absurd (show false=true from h) Bool.false_ne_true
 | .int i n,y,h=>by
  cases y<;>try exact absurd (show false=true from h) Bool.false_ne_true
  rename_i j m;have h':jT (Nat.beq (kc i) (kc j)) (YW n m)=true:=h;rw[hD,Zp,lδ,lη]at h';rw[h'.1,abV h'.2]
 | .str s,y,h=>by
  cases y<;>try exact absurd (show false=true from h) Bool.false_ne_true
  rename_i t;have h':QM s t=true:=h;rw[Jd]at h';rw[M4 h']
 | .agg cs,y,h=>by
  cases y<;>try exact absurd (show false=true from h) Bool.false_ne_true
  rename_i cs';rw[Ca cs cs' h]
 | .slice z es,y,h=>by
  cases y<;>try exact absurd (show false=true from h) Bool.false_ne_true
  rename_i z' es';have h':jT (Nat.beq z z') _=true:=h;rw[hD,lδ]at h';rw[lζ h'.1,Ca es es' h'.2]
 | .nilptr,y,h=>absurd (show false=true from h) Bool.false_ne_true
 | .ptr _,y,h=>absurd (show false=true from h) Bool.false_ne_true
 | .map _ _,y,h=>absurd (show false=true from h) Bool.false_ne_true
 | .nilmap,y,h=>absurd (show false=true from h) Bool.false_ne_true
 | .fn _ _,y,h=>absurd (show false=true from h) Bool.false_ne_true
 | .nilfn,y,h=>absurd (show false=true from h) Bool.false_ne_true
 | .iface _ _,y,h=>absurd (show false=true from h) Bool.false_ne_true
 | .nilif,y,h=>absurd (show false=true from h) Bool.false_ne_true
 | .sliceE z es,y,h=>by
  cases y<;>try exact absurd (show false=true from h) Bool.false_ne_true
  rename_i z' es';have h':jT (Nat.beq z z') _=true:=h;rw[hD,lδ]at h';rw[lζ h'.1,Ca es es' h'.2]
 | .sym _ _,y,h=>absurd (show false=true from h) Bool.false_ne_true
theorem Ca:∀(xs ys:List Da),Da.rec_1 (motive_1:=fun _=>Da→Bool) (motive_2:=fun _=>List Da→Bool)
  (fun _ _=>false) (fun i n y=>ahM y fun j m=>jT (Nat.beq (kc i) (kc j)) (YW n m)) (fun s y=>ahO y fun t=>QM s t) (fun _ ih y=>ahL y ih) (fun z _ ih y=>aas y fun z' es'=>jT (Nat.beq z z') (ih es'))
  (fun _=>false) (fun _ _ _=>false) (fun _ _ _ _ _=>false) (fun _=>false) (fun _ _ _ _=>false) (fun _=>false) (fun _ _ _ _=>false) (fun _=>false) (fun z _ ih y=>TK y fun z' es'=>jT (Nat.beq z z') (ih es')) (fun _ _ _=>false)
  (fun ys=>List.rec (motive:=fun _=>Bool) true (fun _ _ _=>false) ys) (fun _ _ ihd ihr ys=>List.rec (motive:=fun _=>Bool) false (fun y ys _=>jT (ihd y) (ihr ys)) ys) xs ys=true→xs=ys
 |[],[],_=>rfl
 |[],_::_,h=>by cases h
 |_::_,[],h=>by cases h
 |x::xs,y::ys,h=>by
  have h':jT (YV x y) _=true:=h;rw[hD,lδ]at h';rw[Jc x y h'.1,Ca xs ys h'.2]
end
theorem rR:∀{xs ys:List Da},AH xs ys=true→xs=ys
 |[],[],_=>rfl
 |[],_::_,h=>by cases h
 |_::_,[],h=>by cases h
 |x::xs,y::ys,h=>by
  have h':jT (YV x y) (AH xs ys)=true:=h;rw[hD,lδ]at h';rw[Jc x y h'.1,rR h'.2]
def memo (l:List (List Da×R))(xs:List Da):R:=
 List.rec (motive:=fun _=>R) none (fun p _ ih=>Bool.rec (motive:=fun _=>R) ih p.2 (AH p.1 xs)) l
theorem Ev:∀{l:List (List Da×R)} {xs:List Da} {ro:D×List Ob},memo l xs=some ro→∃p∈l,p.1=xs∧p.2=some ro
 |[],xs,ro,h=>by cases h
 |p::l,xs,ro,h=>by
  have h':Bool.rec (motive:=fun _=>R) (memo l xs) p.2 (AH p.1 xs)=some ro:=h;cases he:AH p.1 xs
  ·rw[he]at h';obtain⟨q,h1,h2⟩:=Ev (l:=l) h';exact⟨q,lχ _ h1,h2⟩
  ·rw[he]at h';exact⟨p,lτ ..,rR he,h'⟩
variable [Letters]
theorem VH {P:Program}{G:ce}{call:aJ}(hc:dR P G call){f:Nat}{l:List (List Da×R)}(h:∀p∈l,p.2=none∨call f (p.1.map .p) []=p.2):gl P G f (memo l):=by
 intro xs r out hm;obtain⟨p,hp,hx,hr⟩:=Ev hm;rcases h p hp with h1|h1
 ·rw[h1]at hr;cases hr
 ·subst hx;rw[hr]at h1;obtain⟨c1,c2⟩:=hc f _ [] _ _ h1;refine⟨c1,fun w S vs hS hg hv=>?_⟩
  exact c2 [] w S vs ⟨rfl,by intro id l o h;simp at h,by rintro b ⟨id,l,o,h,_⟩;simp at h,by intro id id' l l' o o' b h;simp at h,hS⟩ hg (Pw.map_left (by simpa only[VR]using hv))
def SV (l:List (List Da×R))(call:aJ)(f:Nat)(xs:List Da):R:=
 Option.rec (motive:=fun _=>R) (call f (xs.map .p) []) (fun r=>some r) (memo l xs)
theorem Q9 {P:Program}{G:ce}{call:aJ}(hc:dR P G call){f:Nat}{l:List (List Da×R)}(h:∀p∈l,p.2=none∨call f (p.1.map .p) []=p.2):gl P G f (SV l call f):=by
 intro xs r out hm;have hcall:call f (xs.map .p) []=some (r,out):=by
  unfold SV at hm;cases hq:memo l xs with
  |none=>rw[hq]at hm;exact hm
  |some ro=>
   rw[hq]at hm;obtain⟨p,hp,hx,hr⟩:=Ev hq;rcases h p hp with h1|h1
   ·rw[h1]at hr;cases hr
   ·rw[hr,hx]at h1;rw[h1];exact hm
 obtain⟨c1,c2⟩:=hc f _ [] _ _ hcall;refine⟨c1,fun w S vs hS hg hv=>?_⟩
 exact c2 [] w S vs ⟨rfl,by intro id l o h;simp at h,by rintro b ⟨id,l,o,h,_⟩;simp at h,by intro id id' l l' o o' b h;simp at h,hS⟩ hg (Pw.map_left (by simpa only[VR]using hv))
end
end Go.Ab
end
section
namespace Go.Ab
def jD (n bytes:Nat):Bool:=Nat.ble ((2*(0+n)+192)*bytes) 281474976710656&&Nat.ble (2*(0+n)+192) 9223372036854775807
def iC (z bytes:Nat):List Da→Option (D×List Ob)
 |[.slice z' es]=>bif Nat.beq z' z&&jD es.length bytes then some (.p (.slice z es),[])else none
 |_=>none
def j2 (z bytes:Nat):List Da→Option (D×List Ob)
 |[.slice z' es]=>bif Nat.beq z' z&&jD es.length bytes then some (.arr 0 0 es.length z,[.arr es])else none
 |_=>none
end Go.Ab
end
section
namespace Go.Ab
open Go
variable [Letters]
theorem xG {P : Program} {G : ce} {call : aJ} (hcall : dR P G call) (hmix : P.follows .mixedOrders = true) {raw : Nat → Bool} {f fuel : Nat} {fn : Func} {x : Fx} (hf : P.funcs[f]? = some fn) (hx : FS P G raw fn x) (hn : (fn.name == "runtime.NumGoroutine") = false)
  {g:List Da→Option (D×List Ob)} (h:∀xs r out,g xs=some (r,out)→∃z es,xs=[.slice z es]∧(es=[]→fc call fuel x [.sl .na z []] []=some (r,out))∧fc call fuel x [.sl .some z es] []=some (r,out)):gl P G f g:=by
 intro xs r out hg;obtain⟨z,es,rfl,h1,h2⟩:=h xs r out hg;refine⟨⟨fn,hf,?_,hn⟩,fun w S vs hS hgr hv=>?_⟩
 ·cases hb:fn.body with
  |none=>obtain⟨h4,_⟩:=hx;rw[hb]at h4;simp at h4
  |some c=>rfl
 ·obtain⟨v,us,rfl,hv1,hv2⟩:=hv.cons_inv;obtain rfl:=hv2.nil_inv;have hr:HR [] w S []:=⟨rfl,by intro id l o h;simp at h,by rintro b ⟨id,l,o,h,_⟩;simp at h,by intro id id' l l' o o' b h;simp at h,hS⟩
  have hv3:=hv1;simp only[PR]at hv3;obtain⟨a,cap,us,rfl,k1,k2,k3⟩:=hv3;cases a with
  |none=>
   have hus:us=[]:=by
    rcases us with _|⟨u,us⟩
    ·rfl
    ·obtain⟨b,o,hb,_⟩:=k3 (by simp);cases hb
   subst hus;have hes:es=[]:=by
    have:=(PRs_iff.1 k2).1;exact lν this
   have hvr:VR [] w S (.sl .na z []) (.slice none 0 cap):=by
    simp only[VR];exact⟨none,cap,[],rfl,by simp,by simp[jF],by simp[tB],by simp⟩
   exact adH hcall hmix hf hx (h1 hes) hr hgr (Pw.cons hvr Pw.nil)
  |some a=>
   have hvr:VR [] w S (.sl .some z es) (.slice (some a) us.length cap):=by
    simp only[VR];exact⟨some a,cap,us,rfl,k1,by simp[jF],k2,k3⟩
   exact adH hcall hmix hf hx h2 hr hgr (Pw.cons hvr Pw.nil)
theorem S0 {P:Program}{G:ce}:dR P G (fun _ _ _=>none):=by intro f ds hp r out h;cases h
theorem Ys {P : Program} {G : ce} (hmix : P.follows .mixedOrders = true) {raw : Nat → Bool} {f : Nat} {fn : Func} {x : Fx} (hf : P.funcs[f]? = some fn) (hx : FS P G raw fn x) (hn : (fn.name == "runtime.NumGoroutine") = false) {z bytes : Nat}
  (h0:fc (fun _ _ _=>none) 0 x [.sl .na z []] []=some (.p (.slice z []),[]))
  (h1:fc (fun _ _ _=>none) 0 x [.sl .some z []] []=some (.p (.slice z []),[]))
  (h2:∀e es,fc (fun _ _ _=>none) 0 x [.sl .some z (e::es)] []=bif jD (es.length+1) bytes then some (.p (.slice z ((e::es).take (0+(es.length+1)))),[])else none):gl P G f (iC z bytes):=by
 refine xG S0 hmix (fuel:=0) hf hx hn fun xs r out hg=>?_
 unfold iC at hg;split at hg
 ·rename_i z' es;cases hz:Nat.beq z' z
  ·simp[hz]at hg
  ·obtain rfl:=lζ hz;simp only[hz,Bool.true_and]at hg;cases hr:jD es.length bytes
   ·simp[hr]at hg
   ·simp only[hr,cond_true,lα,lε]at hg;obtain⟨rfl,rfl⟩:=hg;refine⟨z',es,rfl,fun he=>by subst he;exact h0,?_⟩
    cases es with
    |nil=>exact h1
    |cons e es=>
     rw[h2,show es.length+1=(e::es).length from rfl,hr,cond_true,Nat.zero_add,List.take_length]
 ·simp at hg
theorem U2 {P : Program} {G : ce} (hmix : P.follows .mixedOrders = true) {raw : Nat → Bool} {f : Nat} {fn : Func} {x : Fx} (hf : P.funcs[f]? = some fn) (hx : FS P G raw fn x) (hn : (fn.name == "runtime.NumGoroutine") = false) {z bytes : Nat}
  (h0:fc (fun _ _ _=>none) 0 x [.sl .na z []] []=some (.arr 0 0 0 z,[.arr []]))
  (h1:fc (fun _ _ _=>none) 0 x [.sl .some z []] []=some (.arr 0 0 0 z,[.arr []]))
  (h2:∀e es,fc (fun _ _ _=>none) 0 x [.sl .some z (e::es)] []=bif jD (es.length+1) bytes then some (.arr 0 0 (0+(es.length+1)) z,[.arr (e::es)])else none):gl P G f (j2 z bytes):=by
 refine xG S0 hmix (fuel:=0) hf hx hn fun xs r out hg=>?_
 unfold j2 at hg;split at hg
 ·rename_i z' es;cases hz:Nat.beq z' z
  ·simp[hz]at hg
  ·obtain rfl:=lζ hz;simp only[hz,Bool.true_and]at hg;cases hr:jD es.length bytes
   ·simp[hr]at hg
   ·simp only[hr,cond_true,lα,lε]at hg;obtain⟨rfl,rfl⟩:=hg;refine⟨z',es,rfl,fun he=>by subst he;exact h0,?_⟩
    cases es with
    |nil=>exact h1
    |cons e es=>
     rw[h2,show es.length+1=(e::es).length from rfl,hr,cond_true,Nat.zero_add]
 ·simp at hg
def gn (z:Nat)(zd:Da)(bytes:Nat):Fx:=⟨(.seq (.reg 0 [⟨(some 2),.mv,[(.n z)],0,none⟩] none [0]) (.seq (.seq (.reg 0 [⟨(some 3),.mv,[(.t 0)],0,none⟩,⟨(some 4),(.binN 1 .eql),[(.t 3),(.n z)],0,none⟩] none [0,4]) (.cond (.t 4) (.seq (.reg 0 [⟨(some 2),.mv,[(.n z)],0,none⟩] none [2]) .ret) .skip)) (.seq (.reg 1 [⟨(some 5),(.bsl z zd 0 []),[],0,none⟩,⟨(some 6),.mv,[(.t 0)],0,none⟩,⟨(some 7),(.app z bytes),[(.t 5),(.t 6)],0,none⟩,⟨(some 2),.mv,[(.t 7)],1,none⟩] none [2]) .ret))),[(.t 2)],true⟩
theorem XC (z bytes:Nat)(e:Da)(es:List Da):uT z bytes 0 0 [.sl .exact z [],.sl .some z (e::es)] [] []=bif jD (es.length+1) bytes then some (.arr 0 0 (0+(es.length+1)) z,[(0,.arr (e::es))],[])else none:=by
 simp only[uT,qK,Fp,List.isEmpty_nil,Bool.or_true,cond_true,elems,qz,show Nat.beq z z=true from Nat.beq_refl z,Bool.true_or,Bool.true_and,List.isEmpty_cons,Bool.false_and,cond_false,List.length_nil,List.length_cons,List.nil_append,jD]
theorem MC (z bytes:Nat)(e:Da)(es:List Da)(k:KV):dA (fun _ _ _=>none) 0 (.app z bytes) 0 [.sl .exact z [],.sl .some z (e::es)] [.unborn] k=bif jD (es.length+1) bytes then k (.arr 0 0 (0+(es.length+1)) z) [.arr (e::es)]else none:=by
 have:dA (fun _ _ _=>none) 0 (.app z bytes) 0 [.sl .exact z [],.sl .some z (e::es)] [.unborn] k=match uT z bytes 0 0 [.sl .exact z [],.sl .some z (e::es)] [] []with
  |none=>none
  |some (v,ups,new)=>k v (grow (az [.unborn] ups) new):=rfl
 rw[this,XC];cases jD (es.length+1) bytes<;>rfl
theorem U3 (z:Nat)(zd:Da)(bytes:Nat)(e:Da)(es:List Da):fc (fun _ _ _=>none) 0 (gn z zd bytes) [.sl .some z (e::es)] []=bif jD (es.length+1) bytes then some (.p (.slice z ((e::es).take (0+(es.length+1)))),[])else none:=by
 rw[←Ct];have h:GC (U9 (gn z zd bytes).body) (fun _ _ _=>none) 0 (gn z zd bytes).res (gn z zd bytes).fz [.sl .some z (e::es)] []=dA (fun _ _ _=>none) 0 (.app z bytes) 0 [.sl .exact z [],.sl .some z (e::es)] [.unborn] (fun v hp=>ib v fun v=>td hp fun hp=>VX (.cons 2 v .nil) hp [.t 2] fun ds=>Vm 0 true ds hp):=by kernel_rfl
 rw[h,MC];cases jD (es.length+1) bytes
 ·rfl
 ·simp only[cond_true,jX,mK,Cv,Cc];rfl
def oz (z:Nat)(zd:Da)(bytes:Nat):Fx:=⟨(.seq (.reg 0 [⟨(some 2),.mv,[(.n z)],0,none⟩] none [0]) (.seq (.seq (.reg 0 [⟨(some 3),.mv,[(.t 0)],0,none⟩,⟨(some 4),(.binN 1 .eql),[(.t 3),(.n z)],0,none⟩] none [0,4]) (.cond (.t 4) (.seq (.reg 0 [⟨(some 2),.mv,[(.n z)],0,none⟩] none [2]) (.gh (.own 2 z) .ret)) .skip)) (.seq (.reg 1 [⟨(some 5),(.bsl z zd 0 []),[],0,none⟩,⟨(some 6),.mv,[(.t 0)],0,none⟩,⟨(some 7),(.app z bytes),[(.t 5),(.t 6)],0,none⟩,⟨(some 2),.mv,[(.t 7)],1,none⟩] none [2]) .ret))),[(.t 2)],false⟩
theorem QD (z:Nat)(zd:Da)(bytes:Nat)(e:Da)(es:List Da):fc (fun _ _ _=>none) 0 (oz z zd bytes) [.sl .some z (e::es)] []=bif jD (es.length+1) bytes then some (.arr 0 0 (0+(es.length+1)) z,[.arr (e::es)])else none:=by
 rw[←Ct];have h:GC (U9 (oz z zd bytes).body) (fun _ _ _=>none) 0 (oz z zd bytes).res (oz z zd bytes).fz [.sl .some z (e::es)] []=dA (fun _ _ _=>none) 0 (.app z bytes) 0 [.sl .exact z [],.sl .some z (e::es)] [.unborn] (fun v hp=>ib v fun v=>td hp fun hp=>VX (.cons 2 v .nil) hp [.t 2] fun ds=>Vm 0 false ds hp):=by kernel_rfl
 rw[h,MC];cases jD (es.length+1) bytes
 ·rfl
 ·simp only[cond_true,jX,mK,Cv,Cc];rfl
theorem Tv {P:Program}{G:ce}{tab:Nat→Option Fn}(h:t8 P G tab){k:Nat}{g:List Da→Option (D×List Ob)}(hg:gl P G k g):t8 P G (fun f=>bif Nat.beq f k then some (.prim g)else tab f):=by
 refine⟨fun f x hx=>?_,fun f g' hx=>?_,fun f g' x hx=>?_,fun f g' hx=>?_⟩
 ·cases hk:Nat.beq f k
  ·rw[hk]at hx;exact h.code f x hx
  ·rw[hk]at hx;simp at hx
 ·cases hk:Nat.beq f k
  ·rw[hk]at hx;exact h.prim f g' hx
  ·rw[hk]at hx;simp only[cond_true,lα,Fn.prim.injEq]at hx;subst hx;rw[lζ hk];exact hg
 ·cases hk:Nat.beq f k
  ·rw[hk]at hx;exact h.both f g' x hx
  ·rw[hk]at hx;simp at hx
 ·cases hk:Nat.beq f k
  ·rw[hk]at hx;exact h.any f g' hx
  ·rw[hk]at hx;simp at hx
theorem acZ {P:Program}{G:ce}{tab:Nat→Option Fn}(h:t8 P G tab){k:Nat}{g:List D→List Ob→Option (D×List Ob)}(hg:Wi P G k g):t8 P G (fun f=>bif Nat.beq f k then some (.any g)else tab f):=by
 refine⟨fun f x hx=>?_,fun f g' hx=>?_,fun f g' x hx=>?_,fun f g' hx=>?_⟩
 ·cases hk:Nat.beq f k
  ·rw[hk]at hx;exact h.code f x hx
  ·rw[hk]at hx;simp at hx
 ·cases hk:Nat.beq f k
  ·rw[hk]at hx;exact h.prim f g' hx
  ·rw[hk]at hx;simp at hx
 ·cases hk:Nat.beq f k
  ·rw[hk]at hx;exact h.both f g' x hx
  ·rw[hk]at hx;simp at hx
 ·cases hk:Nat.beq f k
  ·rw[hk]at hx;exact h.any f g' hx
  ·rw[hk]at hx;simp only[cond_true,lα,Fn.any.injEq]at hx;subst hx;rw[lζ hk];exact hg
theorem ab0 {P:Program}{G:ce}(hmix:P.follows .mixedOrders=true){tab:Nat→Option Fn}{tabH:Nat→Option Hn}(h:t8 P G tab)(hs:∀f,same (tabH f) (tab f))(n:Nat):dR P G (m6 tabH n):=by
 rw[Y4 hs n];exact wP hmix h n
end Go.Ab
end
section
namespace Go.Ab
open Go
def Zm (x:Nat):List Nat→List Nat
 |[]=>[x]
 |y::r=>bif Nat.beq x y then y::r else bif Nat.blt x y then x::y::r else y::Zm x r
def ae1 (x:Nat):List Nat→List Nat
 |[]=>[]
 |y::r=>bif Nat.beq x y then r else y::ae1 x r
def ahK:List Nat→List Nat→List Nat
 |[],l=>l
 |x::r,l=>Zm x (ahK r l)
def cZ (x:Nat):List Nat→Bool
 |[]=>false
 |y::r=>bif Nat.beq x y then true else cZ x r
def ad0:A→List Nat→List Nat
 | .t n,l=>Zm n l
 |_,l=>l
def aac:List A→List Nat→List Nat
 |[],l=>l
 |a::r,l=>ad0 a (aac r l)
def ahe (x:eQ)(l:List Nat):List Nat:=
 aac x.as (match x.gd with
  |some (g,_)=>Zm g (match x.dst with|some d=>ae1 d l|none=>l)
  |none=>(match x.dst with|some d=>ae1 d l|none=>l))
def SO:List eQ→List Nat→List Nat
 |[],out=>out
 |x::r,out=>ahe x (SO r out)
def SA (t:Nat):List (Nat×eQ)→Option eQ
 |[]=>none
 |(s,x)::r=>bif Nat.beq s t then some x else SA t r
def Lk (d:List (Nat×eQ)):Nat→Nat→Nat→Option (Nat×Nat)
 |0,_,_=>none
 |n+1,p,off=>match SA p d with
  |none=>some (p,off)
  |some x=>match x.op,x.as with
   | .fa k,.t q::_=>Lk d n q (off+k)
   | .mv,.t q::_=>Lk d n q off
   | .nilck,.t q::_=>Lk d n q off
   |_,_=>none
def ain (d:List (Nat×eQ))(x:eQ):List Gh:=
 match x.op,x.as with
 | .app z _,.t t::_=>match SA t d with
  |none=>[.own t z]
  |some y=>match y.op,y.as with
   | .mv,.t s::_=>match SA s d with
    |none=>[.own s z]
    |some _=>[]
   | .load _ _,.t p::_=>match Lk d 20 p 0 with
    |some (q,off)=>[.ownc q off z]
    |none=>[]
   |_,_=>[]
 |_,_=>[]
def Z2:List (Nat×eQ)→List eQ→List Gh
 |_,[]=>[]
 |d,x::r=>ain d x++Z2 (match x.dst with|some s=>(s,x)::d|none=>d) r
def xB:Co→List Gh
 | .reg _ ops _ _=>Z2 [] ops
 | .seq a b=>xB a++xB b
 | .cond _ a b=>xB a++xB b
 | .block _ b=>xB b
 | .loop _ b=>xB b
 | .gh _ b=>xB b
 |_=>[]
def ah1:Gh→Gh→Bool
 | .own s z,.own t y=>Nat.beq s t&&Nat.beq z y
 | .ownc s o z,.ownc t p y=>Nat.beq s t&&(Nat.beq o p&&Nat.beq z y)
 |_,_=>false
def Zh (g:Gh):List Gh→Bool
 |[]=>false
 |h::r=>bif ah1 g h then true else Zh g r
def aad:Gh→Nat
 | .own s _=>s
 | .ownc s _ _=>s
 | .frz s=>s
 | .frzc s _=>s
 | .keep _=>0
def Pp (h:List Nat):List Gh→List Gh→Co→Co
 |[],_,c=>c
 |g::r,seen,c=>bif cZ (aad g) h&&!Zh g seen then .gh g (Pp h r (g::seen) c)else Pp h r seen c
def agV:List (Nat×List Nat)→Nat→List Nat
 |[],_=>[]
 |(j,l)::r,i=>bif Nat.beq j i then l else agV r i
def Bp (rl:List Nat):Co→List Nat→List (Nat×List Nat)→Co×List Nat
 | .skip,out,_=>(.skip,out)
 | .ret,_,_=>(.ret,rl)
 | .exit i,_,ex=>(.exit i,agV ex i)
 | .reg n ops ps _,out,_=>(.reg n ops ps out,SO ops out)
 | .seq a b,out,ex=>(.seq (Bp rl a (Bp rl b out ex).2 ex).1 (Bp rl b out ex).1,(Bp rl a (Bp rl b out ex).2 ex).2)
 | .cond c t e,out,ex=>(.cond c (Bp rl t out ex).1 (Bp rl e out ex).1,ad0 c (ahK (Bp rl t out ex).2 (Bp rl e out ex).2))
 | .block i b,out,ex=>(.block i (Bp rl b out ((i,out)::ex)).1,(Bp rl b out ((i,out)::ex)).2)
 | .loop _ b,_,ex=>(Pp (Bp rl b [] ex).2 (xB b) [] (.loop (Bp rl b [] ex).2 (Bp rl b (Bp rl b [] ex).2 ex).1),(Bp rl b [] ex).2)
 | .gh g c,out,ex=>(.gh g (Bp rl c out ex).1,(Bp rl c out ex).2)
theorem DW (h:List Nat)(c:Co):∀(gs seen:List Gh),er (Pp h gs seen c)=er c
 |[],_=>rfl
 |g::r,seen=>by
  simp only[Pp];cases cZ (aad g) h&&!Zh g seen
  ·exact DW h c r seen
  ·exact DW h c r (g::seen)
theorem rS (rl:List Nat):∀(c:Co) (out:List Nat) (ex:List (Nat×List Nat)),er (Bp rl c out ex).1=er c
 | .skip,_,_=>rfl
 | .ret,_,_=>rfl
 | .exit _,_,_=>rfl
 | .reg _ _ _ _,_,_=>rfl
 | .seq a b,out,ex=>by simp only[Bp,er,rS rl a,rS rl b]
 | .cond c t e,out,ex=>by simp only[Bp,er,rS rl t,rS rl e]
 | .block i b,out,ex=>by simp only[Bp,er,rS rl b]
 | .loop _ b,out,ex=>by simp only[Bp,DW,er,rS rl b]
 | .gh g c,out,ex=>by simp only[Bp,er,rS rl c]
def ghAt:List Nat→Gh→Co→Co
 |[],g,c=> .gh g c
 |0::p,g,.seq a b=> .seq (ghAt p g a) b
 |1::p,g,.seq a b=> .seq a (ghAt p g b)
 |0::p,g,.cond c a b=> .cond c (ghAt p g a) b
 |1::p,g,.cond c a b=> .cond c a (ghAt p g b)
 |0::p,g,.block i b=> .block i (ghAt p g b)
 |0::p,g,.loop l b=> .loop l (ghAt p g b)
 |0::p,g,.gh h b=> .gh h (ghAt p g b)
 |_,_,c=>c
theorem abZ:∀(p:List Nat) (g:Gh) (c:Co),er (ghAt p g c)=er c:=by
 intro p g c;induction p,g,c using ghAt.induct<;>simp_all [ghAt,er]
def SE:List (List Nat×Gh)→Co→Co
 |[],c=>c
 |(p,g)::r,c=>ghAt p g (SE r c)
theorem M5:∀(l:List (List Nat×Gh)) (c:Co),er (SE l c)=er c
 |[],_=>rfl
 |(p,g)::r,c=>by simp only[SE,abZ,M5 r]
theorem abe {P:Program}{G:ce}{raw:Nat→Bool}{N:Nat}{ops:List Oper}{draw:Bool}{x:Co}(h:UR P G raw N ops draw=some x):er x=x:=by
 unfold UR at h;split at h
 ·cases h
 ·cases draw
  ·simp only[cond_false,lα]at h;subst h;rfl
  ·simp only[cond_true]at h;cases he:jW ops 0
   ·rw[he]at h;cases h
   ·rw[he]at h;simp only[cond_true]at h;split at h
    ·simp only[lα]at h;subst h;rfl
    ·cases h
theorem aex {P:Program}{G:ce}{raw:Nat→Bool}{N:Nat}:∀{c:Code} {x:Co},I1 P G raw N c=some x→er x=x:=by
 intro c;induction c<;>intro x h<;>simp only[I1]at h
 all_goals try (first|(simp only[lα]at h;subst h;rfl)|(cases h;done)|exact abe h)
 case seq a b iha ihb=>
  split at h
  ·rename_i a' b' ha hb;simp only[lα]at h;subst h;simp only[er,iha ha,ihb hb]
  ·cases h
 case cond c t e iht ihe=>
  split at h
  ·rename_i c' t' e' hc ht he;simp only[lα]at h;subst h;simp only[er,iht ht,ihe he]
  ·cases h
 case block i b ih=>
  split at h
  ·rename_i b' hb;simp only[lα]at h;subst h;simp only[er,ih hb]
  ·cases h
 case loop b ih=>
  split at h
  ·rename_i b' hb;simp only[lα]at h;subst h;simp only[er,ih hb]
  ·cases h
def agu:Rv→Nat
 | .t n=>n
 | .cell a _ _=>a
def Lg:List Rv→List Nat
 |[]=>[]
 |r::rs=>Zm (agu r) (Lg rs)
structure Cfg where
 raw:Nat→Nat→Bool
 thaw:Nat→Bool
 ghs:Nat→List (List Nat×Gh)
 prim:Nat→Option (List Da→Option (D×List Ob))
def jY (P:Program)(G:ce)(s:Cfg)(f:Nat):Option Fx:=
 match P.funcs[f]? with
 |some fn=>match fn.body with
  |some c=>match I1 P G (s.raw f) fn.ntmps c,US P fn.results.toList with
   |some x,some rs=>some ⟨SE (s.ghs f) (Bp (Lg rs) x (Lg rs) []).1,rs,!s.thaw f⟩
   |_,_=>none
  |none=>none
 |none=>none
theorem zE {P:Program}{G:ce}{s:Cfg}{f:Nat}{x:Fx}(h:jY P G s f=some x):∃fn,P.funcs[f]?=some fn∧FS P G (s.raw f) fn x:=by
 unfold jY at h;split at h
 ·rename_i fn hf;refine⟨fn,hf,?_⟩;split at h
  ·rename_i c hc;split at h
   ·rename_i y rs hy hr;simp only[lα]at h;subst h;refine⟨?_,hr⟩;rw[hc];simp only[hy,M5,rS,aex hy]
   ·cases h
  ·cases h
 ·cases h
def aah (P:Program)(G:ce)(s:Cfg)(f:Nat):Option Fn:=
 match s.prim f with
 |some g=>match jY P G s f with
  |some x=>some (.both g x)
  |none=>some (.prim g)
 |none=>match jY P G s f with
  |some x=>some (.code x)
  |none=>none
variable [Letters]
theorem acY {P : Program} {G : ce} {s : Cfg} (hn : P.funcs.toList.all (fun fn => !(fn.name == "runtime.NumGoroutine")) = true) (hp : ∀ f g, s.prim f = some g → gl P G f g) : t8 P G (aah P G s) := by
 have hc : ∀ f y, jY P G s f = some y → ∃ fn raw, P.funcs[f]? = some fn ∧ FS P G raw fn y ∧ (fn.name == "runtime.NumGoroutine") = false := by
  intro f y hy;obtain⟨fn,h1,h2⟩:=zE hy;refine⟨fn,s.raw f,h1,h2,?_⟩;have hm:fn∈P.funcs.toList:=by
   rw[Array.mem_toList_iff];exact Array.mem_of_getElem? h1
  simpa using List.all_eq_true.mp hn fn hm
 refine⟨fun f x h=>?_,fun f g h=>?_,fun f g x h=>?_,fun f g h=>?_⟩
 all_goals
  unfold aah at h;split at h
  ·rename_i g' hg;split at h
   ·rename_i y hy;first
     |(cases h;done)
     |(simp only[lα,Fn.both.injEq]at h;obtain⟨rfl,rfl⟩:=h;exact⟨hp f _ hg,hc f _ hy⟩)
   ·first
     |(cases h;done)
     |(simp only[lα,Fn.prim.injEq]at h;subst h;exact hp f _ hg)
  ·split at h
   ·rename_i y hy;first
     |(cases h;done)
     |(simp only[lα,Fn.code.injEq]at h;subst h;exact hc f _ hy)
   ·cases h
end Go.Ab
end
section
namespace Go.Ab
open Go
noncomputable section
structure Bx (α:Type) where
 un:α
def lG (l t:Tm):Tm:=Tm.rec (motive:=fun _=>Tm) t (fun s d _ ih=> .cons s d ih) l
def fm:Tm→List Nat
 | .nil=>[]
 | .cons s _ r=>s::fm r
def z6 (s:Nat):List Nat→Option Nat
 |[]=>none
 |x::r=>bif Nat.beq x s then some 0 else match z6 s r with
  |some j=>some (j+1)
  |none=>none
def tlT (l:Tm):Tm:=Tm.rec (motive:=fun _=>Tm) .nil (fun _ _ r _=>r) l
def hdT (l:Tm):D:=Tm.rec (motive:=fun _=>D) .junk (fun _ d _ _=>d) l
def Sn:Nat→Bx (Tm→D)
 |0=>⟨fun l=>hdT l⟩
 |1=>⟨fun l=>hdT (tlT l)⟩
 |2=>⟨fun l=>hdT (tlT (tlT l))⟩
 |n+3=>⟨fun l=>(Sn n).un (tlT (tlT (tlT l)))⟩
theorem MX:∀(n:Nat) (l:Tm),(Sn n).un l=Nat.rec (motive:=fun _=>Tm→D) (fun l=>hdT l) (fun _ ih l=>ih (tlT l)) n l
 |0,l=>rfl
 |1,l=>rfl
 |2,l=>rfl
 |n+3,l=>MX n _
theorem HD (s:Nat)(t:Tm):∀(l:Tm),get (lG l t) s=match z6 s (fm l)with
  |some j=>(Sn j).un l
  |none=>get t s
 | .nil=>rfl
 | .cons x d r=>by
  show(bif Nat.beq x s then d else get (lG r t) s)=_;simp only[fm,z6];cases h:Nat.beq x s
  ·simp only[cond_false];rw[HD s t r];cases z6 s (fm r)with
   |none=>rfl
   |some j=>
    simp only[MX];rfl
  ·rfl
def Oo (σ:List Nat):A→Bx (Tm→Tm→D)
 | .t n=>match z6 n σ with
  |some j=>⟨fun _ l=>(Sn j).un l⟩
  |none=>⟨fun t _=>rX t n⟩
 | .c x=>⟨fun _ _=> .p x⟩
 | .n z=>⟨fun _ _=> .sl .nil z []⟩
 | .f g=>⟨fun _ _=> .p (.fn g [])⟩
 | .g x=>⟨fun _ _=> .ip x 0⟩
theorem Cm (l t:Tm)(a:A):(Oo (fm l) a).un t l=evA (lG l t) a:=by
 cases a<;>try rfl
 rename_i n;show _=rX (lG l t) n;rw[hT,HD];simp only[Oo];cases z6 n (fm l)with
 |none=>simp only[hT]
 |some j=>rfl
abbrev Op1:=Bx (Tm→Tm→D)
def Ah (as:List Op1)(t l:Tm):List D:=List.rec (motive:=fun _=>List D) [] (fun a _ ih=>a.un t l::ih) as
def opK (o:O)(kk:Nat)(as:List Op1):Bx (aJ→Nat→Tm→Tm→List Ob→KV→R):=
 match o,as with
 | .mv,[a]=>⟨fun _ _ t l hp k=>k (a.un t l) hp⟩
 | .pick,[c,a,b]=>⟨fun _ _ t l hp k=>Z3 (c.un t l) (a.un t l) (b.un t l) fun v=>k v hp⟩
 | .bin op,[x,y]=>⟨fun _ _ t l hp k=>aa3 op (x.un t l) (y.un t l) fun v=>k v hp⟩
 | .un .not,[x]=>⟨fun _ _ t l hp k=>afN (x.un t l) fun v=>k v hp⟩
 | .ia esz,[x,i]=>⟨fun _ _ t l hp k=>iaG esz (x.un t l) (i.un t l) fun v=>k v hp⟩
 | .ix,[x,i]=>⟨fun _ _ t l hp k=>ixK (x.un t l) (i.un t l) fun v=>k v hp⟩
 | .fa off,[x]=>⟨fun _ _ t l hp k=>faG off (x.un t l) fun v=>k v hp⟩
 | .nilck,[x]=>⟨fun _ _ t l hp k=>ZT (x.un t l) fun v=>k v hp⟩
 | .ext i,[x]=>⟨fun _ _ t l hp k=>ab1 i (x.un t l) fun v=>k v hp⟩
 | .len kd,[x]=>⟨fun _ _ t l hp k=>ahd kd (x.un t l) hp fun v=>k v hp⟩
 | .call f raw,as=>⟨fun call _ t l hp k=>Sb call f raw (Ah as t l) hp k⟩
 | .alloc zs,[]=>⟨fun _ base _ _ hp k=>IV base kk zs hp k⟩
 | .box n,[d]=>⟨fun _ base t l hp k=>abc base n kk (d.un t l) hp k⟩
 | .store n,[a,d]=>⟨fun call base t l hp k=>Li call base n kk (a.un t l) (d.un t l) hp k⟩
 | .slStr lo hi,x::xs=>⟨fun _ _ t l hp k=>Lf lo hi (x.un t l) (Ah xs t l) fun v=>k v hp⟩
 | .fld off n agg,[x]=>⟨fun _ _ t l hp k=>Y9 off n agg (x.un t l) fun v=>k v hp⟩
 | .build zs ps,vs=>⟨fun _ _ t l hp k=>I0 zs ps (Ah vs t l) fun v=>k v hp⟩
 | .app esz bytes,[a,b]=>⟨fun call base t l hp k=>aaY call base esz bytes kk (a.un t l) (b.un t l) hp k⟩
 | .load 1 false,[x]=>⟨fun _ _ t l hp k=>ZB (x.un t l) hp fun v=>k v hp⟩
 | .load n true,[x]=>⟨fun _ _ t l hp k=>adS n true (x.un t l) hp fun v=>k v hp⟩
 |o,as=>⟨fun call base t l hp k=>Vt call base o kk (Ah as t l) hp k⟩
theorem Ro (o:O)(kk:Nat)(as:List Op1)(call:aJ)(base:Nat)(t l:Tm)(hp:List Ob)(k:KV):(opK o kk as).un call base t l hp k=Vt call base o kk (Ah as t l) hp k:=by
 unfold opK;split<;>first
  |rfl
  |(
    show _=Vt call base (.load _ true) kk [_] hp k;unfold Vt;split<;>simp_all)
def vw (σ:List Nat):List A→List Op1
 |[]=>[]
 |a::r=>Oo σ a::vw σ r
theorem yy (t l:Tm):∀as,Ah (vw (fm l) as) t l=xk (lG l t) as
 |[]=>rfl
 |a::r=>by
  show(Oo (fm l) a).un t l::Ah (vw (fm l) r) t l=evA (lG l t) a::xk (lG l t) r;rw[Cm,yy t l r]
def opX (σ:List Nat)(x:eQ):Bx (aJ→Nat→Tm→Tm→List Ob→KV→R):=
 match x.gd with
 |none=>opK x.op x.k (vw σ x.as)
 |some (g,w)=>⟨fun call base t l hp k=>gG ((Oo σ (.t g)).un t l) w (fun k=>(opK x.op x.k (vw σ x.as)).un call base t l hp k) hp k⟩
theorem ZZ (x:eQ)(call:aJ)(base:Nat)(t l:Tm)(hp:List Ob)(k:KV):(opX (fm l) x).un call base t l hp k=gdO x.gd (lG l t) (fun k=>Vt call base x.op x.k (xk (lG l t) x.as) hp k) hp k:=by
 unfold opX gdO;cases h:x.gd with
 |none=>simp only[Ro,yy]
 |some p=>
  obtain⟨g,w⟩:=p;simp only[Ro,yy,Cm];rfl
def Rr (σ:List Nat):List Nat→Bx (Tm→Tm→Tm)
 |[]=>⟨fun _ _=> .nil⟩
 |s::r=>⟨fun t l=> .cons s ((Oo σ (.t s)).un t l) ((Rr σ r).un t l)⟩
theorem Ky (t l:Tm):∀out,(Rr (fm l) out).un t l=mQ out (lG l t)
 |[]=>rfl
 |s::r=>by
  show Tm.cons s ((Oo (fm l) (.t s)).un t l) ((Rr (fm l) r).un t l)=_;rw[Cm,Ky t l r];rfl
def VN (out:List Nat):List Nat→List eQ→Bx (aJ→Nat→Tm→Tm→List Ob→K→R)
 |σ,[]=>⟨fun _ _ t l hp k=>k ((Rr σ out).un t l) hp⟩
 |σ,x::r=>match x.dst with
  |some d=>⟨fun call base t l hp k=>(opX σ x).un call base t l hp fun v hp=>(VN out (d::σ) r).un call base t (.cons d v l) hp k⟩
  |none=>⟨fun call base t l hp k=>(opX σ x).un call base t l hp fun _ hp=>(VN out σ r).un call base t l hp k⟩
theorem Cn (out:List Nat)(call:aJ)(base:Nat)(t:Tm)(k:K):∀(ops:List eQ) (l:Tm) (hp:List Ob),(VN out (fm l) ops).un call base t l hp k=Ju call base ops (lG l t) hp fun tm hp=>k (mQ out tm) hp
 |[],l,hp=>by
  show k ((Rr (fm l) out).un t l) hp=k (mQ out (lG l t)) hp;rw[Ky]
 |x::r,l,hp=>by
  have step:Ju call base (x::r) (lG l t) hp (fun tm hp=>k (mQ out tm) hp)=gdO x.gd (lG l t) (fun k=>Vt call base x.op x.k (xk (lG l t) x.as) hp k) hp fun v hp=>Ju call base r (put x.dst v (lG l t)) hp fun tm hp=>k (mQ out tm) hp:=rfl
  rw[step];unfold VN;cases hd:x.dst with
  |none=>
   simp only[ZZ];congr 1;funext v hp;exact Cn out call base t k r l hp
  |some d=>
   simp only[ZZ];congr 1;funext v hp;exact Cn out call base t k r (.cons d v l) hp
structure gf where
 rs:List Nat
 wl:List (Nat×Bool)
 grow:Bool
 lim:Nat
def vF (l:List (Nat×Bool)):List Nat:=List.rec (motive:=fun _=>List Nat) [] (fun p _ ih=>bif p.2 then p.1::ih else ih) l
def cu (f:gf):eq:=⟨f.rs,vF f.wl,f.grow,f.lim⟩
def Ai (ids:List Nat)(hp:List Ob)(l:List (Nat×Ob)):List (Nat×Bool):=List.rec (motive:=fun _=>List (Nat×Bool)) [] (fun p _ ih=>(p.1,!(AN p.1 ids&&QL (aZ hp p.1) p.2))::ih) l
theorem oh (ids:List Nat)(hp:List Ob):∀l,vF (Ai ids hp l)=og ids hp l
 |[]=>rfl
 |(i,o)::r=>by
  show(bif !(AN i ids&&QL (aZ hp i) o)then i::vF (Ai ids hp r)else vF (Ai ids hp r))=_;rw[oh ids hp r];simp only[og];cases AN i ids&&QL (aZ hp i) o<;>rfl
def ab9 (i:Nat)(l:List (Nat×Bool)):Bool:=List.rec (motive:=fun _=>Bool) false (fun p _ ih=>Bool.rec (motive:=fun _=>Bool) ih (Bool.rec (motive:=fun _=>Bool) ih true p.2) (Nat.beq p.1 i)) l
theorem SF (i:Nat):∀l,ab9 i l=(vF l).contains i
 |[]=>rfl
 |(j,b)::r=>by
  show Bool.rec (motive:=fun _=>Bool) (ab9 i r) (Bool.rec (motive:=fun _=>Bool) (ab9 i r) true b) (Nat.beq j i)=(bif b then j::vF r else vF r).contains i;rw[SF i r];cases b with
  |false=>cases Nat.beq j i<;>rfl
  |true=>
   simp only[cond_true,List.contains_cons];have:(i==j)=Nat.beq j i:=by rw[mδ,beq_iff_eq,Nat.beq_eq];exact eq_comm
   rw[this];cases Nat.beq j i<;>rfl
def Wd (a:gf)(i:Nat):Bool:=Bool.rec (motive:=fun _=>Bool) (Bool.rec (motive:=fun _=>Bool) false (Nat.ble a.lim i) a.grow) true (ab9 i a.wl)
theorem TJ (a:gf)(i:Nat):Wd a i=wr (cu a) i:=by
 unfold Wd wr cu;rw[SF];cases(vF a.wl).contains i<;>cases a.grow<;>simp
def SZ (a:gf)(l:List Nat):Bool:=List.rec (motive:=fun _=>Bool) true (fun i _ ih=>Bool.rec (motive:=fun _=>Bool) ih false (Wd a i)) l
theorem NV (a:gf):∀l,SZ a l=l.all (fun i=>!wr (cu a) i)
 |[]=>rfl
 |i::r=>by
  show Bool.rec (motive:=fun _=>Bool) (SZ a r) false (Wd a i)=_;rw[NV a r,TJ];simp only[List.all_cons];cases wr (cu a) i<;>rfl
def EB (a:gf)(l:List (Nat×Bool)):Bool:=List.rec (motive:=fun _=>Bool) true (fun p _ ih=>Bool.rec (motive:=fun _=>Bool) ih (Bool.rec (motive:=fun _=>Bool) ih false p.2) (Wd a p.1)) l
theorem Hu (a:gf):∀l,EB a l=(vF l).all (fun i=>!wr (cu a) i)
 |[]=>rfl
 |(i,b)::r=>by
  show Bool.rec (motive:=fun _=>Bool) (EB a r) (Bool.rec (motive:=fun _=>Bool) (EB a r) false b) (Wd a i)=(bif b then i::vF r else vF r).all _;rw[Hu a r,TJ];cases b with
  |false=>cases wr (cu a) i<;>rfl
  |true=>
   simp only[cond_true,List.all_cons];cases wr (cu a) i<;>rfl
def Qq (a b:gf):Bool:=
 Bool.rec (motive:=fun _=>Bool) false (Bool.rec (motive:=fun _=>Bool) false (Bool.rec (motive:=fun _=>Bool) false (Bool.rec (motive:=fun _=>Bool) false (Bool.rec (motive:=fun _=>Bool) true (Bool.rec (motive:=fun _=>Bool) true false b.grow) a.grow) (EB b a.wl)) (SZ b a.rs)) (EB a b.wl)) (SZ a b.rs)
theorem UJ (a b:gf):Qq a b=nT (cu a) (cu b):=by
 unfold Qq nT;simp only[NV,Hu];show _=((cu b).rs.all _&&(vF b.wl).all _&&(cu a).rs.all _&&(vF a.wl).all _&&!(a.grow&&b.grow));simp only[cu];cases b.rs.all _<;>cases(vF b.wl).all _<;>cases a.rs.all _<;>cases(vF a.wl).all _<;>cases a.grow<;>cases b.grow<;>rfl
def oX (fs:List gf):List (Nat×Nat)→Bool
 |[]=>true
 |(i,j)::r=>match fs[i]?,fs[j]? with
  |some a,some b=>Bool.rec (motive:=fun _=>Bool) false (oX fs r) (Qq a b)
  |_,_=>false
theorem qg (fs:List gf):∀ps,oX fs ps=fP (fs.map cu) ps
 |[]=>rfl
 |(i,j)::r=>by
  simp only[oX,fP,lψ,qg fs r];cases fs[i]? with
  |none=>rfl
  |some a=>
   cases fs[j]? with
   |none=>rfl
   |some b=>
    simp only[Option.map_some,UJ];cases nT (cu a) (cu b)<;>rfl
abbrev KL:=D→List Ob→gf→R
def QA (call:aJ)(f:Nat)(raw:Bool)(vs:List D)(hp:List Ob)(k:KL):R:=
 forceNs (hZ hp bp (gt vs []) []) fun ids=>
  forceDs (gw (li ids) (Bool.rec (motive:=fun _=>List D) (vs.map norm) vs raw)) fun args=>forceHb (qv ids hp) fun hp'=>
   caseO (call f args hp') none fun ro=>Prod.rec (motive:=fun _=>R) (fun r out=>vI (Nat.ble ids.length out.length)
    (ib (jA (back ids.length hp.length ids out.length) r) fun v=>forceHb (qO (back ids.length hp.length ids out.length) out) fun out'=>
     forceHb (grow (az hp (ids.zip out')) (out'.drop ids.length)) fun hp2=>k v hp2 ⟨ids,Ai ids hp (ids.zip out'),!(out'.drop ids.length).isEmpty,hp.length⟩) none) ro
theorem UW (call:aJ)(f:Nat)(raw:Bool)(vs:List D)(hp:List Ob){k:KL}{q:KF}(h:∀v hp f,k v hp f=q v hp (cu f)):QA call f raw vs hp k=G2 call f raw vs hp q:=by
 unfold QA G2;simp only[h,cu,oh]
def Qy (call:aJ)(f:Nat)(raw:Bool)(vs:List D)(hp:List Ob)(k:KL):R:=
 G1 call f raw vs hp (QA call f raw vs hp k) fun v=>k v hp ⟨[],[],false,hp.length⟩
theorem UU (call:aJ)(f:Nat)(raw:Bool)(vs:List D)(hp:List Ob){k:KL}{q:KF}(h:∀v hp f,k v hp f=q v hp (cu f)):Qy call f raw vs hp k=MI call f raw vs hp q:=by
 unfold Qy MI;rw[UW _ _ _ _ _ h];simp only[h];rfl
def SC (call:aJ)(base:Nat)(o:O)(kk:Nat)(vs:List D)(hp:List Ob)(k:KL):R:=
 bif !(cX o)||cO (aZ hp (base+kk))then
  match qf call base o kk vs (bM o vs hp) ((bM o vs hp).map (aZ hp)) hp.length with
  |none=>none
  |some (v,ups,new)=>k v (grow (az hp ups) new) ⟨bif cX o then(base+kk)::bM o vs hp else bM o vs hp,Ai (bM o vs hp) hp ups,!new.isEmpty,hp.length⟩
 else none
theorem Zc (call:aJ)(base:Nat)(o:O)(kk:Nat)(vs:List D)(hp:List Ob){k:KL}{q:KF}(h:∀v hp f,k v hp f=q v hp (cu f)):SC call base o kk vs hp k=Jn call base o kk vs hp q:=by
 unfold SC Jn;cases !(cX o)||cO (aZ hp (base+kk))with
 |false=>rfl
 |true=>
  simp only[cond_true];cases qf call base o kk vs (bM o vs hp) ((bM o vs hp).map (aZ hp)) hp.length with
  |none=>rfl
  |some e=>
   obtain⟨v,ups,new⟩:=e;simp only[h,cu,oh]
def Rm (o:O)(kk:Nat)(as:List Op1):Bx (aJ→Nat→Tm→Tm→List Ob→KL→R):=
 match o with
 | .call f raw=>⟨fun call _ t l hp k=>Qy call f raw (Ah as t l) hp k⟩
 |o=>match pn o with
  |true=>⟨fun call base t l hp k=>(opK o kk as).un call base t l hp fun v hp'=>k v hp' ⟨bM o (Ah as t l) hp,[],false,hp.length⟩⟩
  |false=>⟨fun call base t l hp k=>SC call base o kk (Ah as t l) hp k⟩
theorem Rn {o:O}(hs:pn o=true)(kk:Nat)(as:List Op1):Rm o kk as=⟨fun call base t l hp k=>(opK o kk as).un call base t l hp fun v hp'=>k v hp' ⟨bM o (Ah as t l) hp,[],false,hp.length⟩⟩:=by
 cases o<;>first
  |rfl
  |(cases hs;done)
  |(simp only[Rm,hs])
theorem QW {call:aJ}{base kk:Nat}{o:O}{vs:List D}{hp:List Ob}{q:KF}(hs:pn o=true):Bv call base o kk vs hp q=Vt call base o kk vs hp fun v hp'=>q v hp' (adF o vs hp):=by
 cases o<;>first
  |rfl
  |(cases hs;done)
  |(simp only[Bv,hs])
theorem VM {o:O}(hs:pn o=false)(hc:∀f raw,o≠ .call f raw)(kk:Nat)(as:List Op1):Rm o kk as=⟨fun call base t l hp k=>SC call base o kk (Ah as t l) hp k⟩:=by
 cases o<;>first
  |rfl
  |exact absurd rfl (hc _ _)
  |(cases hs;done)
  |(simp only[Rm,hs])
theorem Vu {call:aJ}{base kk:Nat}{o:O}{vs:List D}{hp:List Ob}{q:KF}(hs:pn o=false)(hc:∀f raw,o≠ .call f raw):Bv call base o kk vs hp q=Jn call base o kk vs hp q:=by
 cases o<;>first
  |rfl
  |exact absurd rfl (hc _ _)
  |(cases hs;done)
  |(simp only[Bv,hs])
theorem S8 (o:O)(kk:Nat)(as:List Op1)(call:aJ)(base:Nat)(t l:Tm)(hp:List Ob){k:KL}{q:KF}(h:∀v hp f,k v hp f=q v hp (cu f)):(Rm o kk as).un call base t l hp k=Bv call base o kk (Ah as t l) hp q:=by
 by_cases hc:∃f raw,o= .call f raw
 ·obtain⟨f,raw,rfl⟩:=hc;exact UU _ _ _ _ _ h
 ·have hc:∀f raw,o≠ .call f raw:=fun f raw e=>hc ⟨f,raw,e⟩
  cases hs:pn o with
  |true=>
   rw[Rn hs,QW hs];show(opK o kk as).un call base t l hp _=_;rw[Ro];congr 1;funext v hp';exact h _ _ _
  |false=>
   rw[VM hs hc,Vu hs hc];exact Zc _ _ _ _ _ _ h
def acK (σ:List Nat)(x:eQ):Bx (aJ→Nat→Tm→Tm→List Ob→KL→R):=
 match x.gd with
 |none=>Rm x.op x.k (vw σ x.as)
 |some (g,w)=>⟨fun call base t l hp k=>Jp ((Oo σ (.t g)).un t l) w ((Rm x.op x.k (vw σ x.as)).un call base t l hp k) (k (.tup []) hp ⟨[],[],false,0⟩)⟩
theorem S9 (x:eQ)(call:aJ)(base:Nat)(t l:Tm)(hp:List Ob){k:KL}{q:KF}(hk:∀v hp f,k v hp f=q v hp (cu f)):(acK (fm l) x).un call base t l hp k=gdF x.gd (lG l t) (fun k=>Bv call base x.op x.k (xk (lG l t) x.as) hp k) hp q:=by
 unfold acK gdF;cases h:x.gd with
 |none=>simp only[S8 _ _ _ _ _ _ _ _ hk,yy]
 |some p=>
  obtain⟨g,w⟩:=p;simp only[S8 _ _ _ _ _ _ _ _ hk,yy,Cm,hk];rfl
def Oq (out:List Nat):List Nat→List eQ→Bx (aJ→Nat→Tm→Tm→List Ob→List gf→(Tm→List Ob→List gf→R)→R)
 |σ,[]=>⟨fun _ _ t l hp fs k=>k ((Rr σ out).un t l) hp fs.reverse⟩
 |σ,x::r=>match x.dst with
  |some d=>⟨fun call base t l hp fs k=>(acK σ x).un call base t l hp fun v hp f=>(Oq out (d::σ) r).un call base t (.cons d v l) hp (f::fs) k⟩
  |none=>⟨fun call base t l hp fs k=>(acK σ x).un call base t l hp fun _ hp f=>(Oq out σ r).un call base t l hp (f::fs) k⟩
theorem EL (out:List Nat)(call:aJ)(base:Nat)(t:Tm){k:Tm→List Ob→List gf→R}{q:Tm→List Ob→List eq→R}(hk:∀tm hp fs,k tm hp fs=q tm hp (fs.map cu)):∀(ops:List eQ) (l:Tm) (hp:List Ob) (fs:List gf),(Oq out (fm l) ops).un call base t l hp fs k=w8 call base ops (lG l t) hp (fs.map cu) fun tm hp fs=>q (mQ out tm) hp fs
 |[],l,hp,fs=>by
  show k ((Rr (fm l) out).un t l) hp fs.reverse=q (mQ out (lG l t)) hp (fs.map cu).reverse;rw[Ky,hk,List.map_reverse]
 |x::r,l,hp,fs=>by
  have step:w8 call base (x::r) (lG l t) hp (fs.map cu) (fun tm hp fs=>q (mQ out tm) hp fs)=gdF x.gd (lG l t) (fun k=>Bv call base x.op x.k (xk (lG l t) x.as) hp k) hp fun v hp f=>w8 call base r (put x.dst v (lG l t)) hp (f::fs.map cu) fun tm hp fs=>q (mQ out tm) hp fs:=rfl
  rw[step];unfold Oq;cases hd:x.dst with
  |none=>
   exact S9 _ _ _ _ _ _ fun v hp f=>EL out call base t hk r l hp (f::fs)
  |some d=>
   exact S9 _ _ _ _ _ _ fun v hp f=>EL out call base t hk r (.cons d v l) hp (f::fs)
def ahm (nal:Nat)(ops:List eQ)(prs:Option (List (Nat×Nat)))(out:List Nat):Bx Sem:=
 match prs with
 |none=>match nal with
  |0=>⟨fun c _ _ tm hp kn _ _=>(VN out [] ops).un c hp.length tm .nil hp kn⟩
  |n+1=>⟨fun c _ _ tm hp kn _ _=>(VN out [] ops).un c hp.length tm .nil (wX (n+1) hp) kn⟩
 |some ps=>⟨fun c _ _ tm hp kn _ _=>(Oq out [] ops).un c hp.length tm .nil (wX nal hp) [] fun tm hp fs=>vI (oX fs ps) (kn tm hp) none⟩
theorem acO (nal:Nat)(ops:List eQ)(prs:Option (List (Nat×Nat)))(out:List Nat):(ahm nal ops prs out).un=ahn nal ops prs out:=by
 funext c n m tm hp kn ke kr
 cases prs with
 |none=>
  cases nal with
  |zero=>exact Cn out c hp.length tm kn ops .nil hp
  |succ k=>exact Cn out c hp.length tm kn ops .nil (wX (k+1) hp)
 |some ps=>exact EL out c hp.length tm (q:=fun tm hp fs=>vI (fP fs ps) (kn tm hp) none) (fun tm hp fs=>by rw[qg]) ops .nil (wX nal hp) []
def rO:Co→Bx Sem
 | .skip=>⟨adZ⟩
 | .reg nal ops prs out=>ahm nal ops prs out
 | .seq a b=>⟨fun c n m tm hp kn ke kr=>(rO a).un c n m tm hp (fun tm hp=>(rO b).un c n m tm hp kn ke kr) ke kr⟩
 | .cond x t e=>⟨fun c n m tm hp kn ke kr=>Sh (evA tm x) ((rO t).un c n m tm hp kn ke kr) ((rO e).un c n m tm hp kn ke kr)⟩
 | .block id b=>⟨fun c n m tm hp kn ke kr=>(rO b).un c n m tm hp kn (fun i tm hp=>vI (Nat.beq i id) (kn tm hp) (ke i tm hp)) kr⟩
 | .loop live b=>⟨fun c n m tm hp _ ke kr=>Ho m live (fun tm hp k=>(rO b).un c n m tm hp k ke kr) n tm hp⟩
 | .exit id=>⟨adD id⟩
 | .ret=>⟨aho⟩
 | .gh g b=>⟨fun c n m tm hp kn ke kr=>ghK m g tm hp fun tm hp=>(rO b).un c n m tm hp kn ke kr⟩
theorem lL:∀c:Co,(rO c).un=U9 c
 | .skip=>rfl
 | .reg nal ops prs out=>acO nal ops prs out
 | .seq a b=>by
  show(fun(c:aJ) (n m:Nat) (tm:Tm) (hp:List Ob) (kn:K) (ke:Nat→K) (kr:K)=>(rO a).un c n m tm hp (fun tm hp=>(rO b).un c n m tm hp kn ke kr) ke kr)=_;rw[lL a,lL b];rfl
 | .cond x t e=>by
  show(fun(c:aJ) (n m:Nat) (tm:Tm) (hp:List Ob) (kn:K) (ke:Nat→K) (kr:K)=>Sh (evA tm x) ((rO t).un c n m tm hp kn ke kr) ((rO e).un c n m tm hp kn ke kr))=_;rw[lL t,lL e];rfl
 | .block id b=>by
  show(fun(c:aJ) (n m:Nat) (tm:Tm) (hp:List Ob) (kn:K) (ke:Nat→K) (kr:K)=>(rO b).un c n m tm hp kn (fun i tm hp=>vI (Nat.beq i id) (kn tm hp) (ke i tm hp)) kr)=_;rw[lL b];rfl
 | .loop live b=>by
  show(fun(c:aJ) (n m:Nat) (tm:Tm) (hp:List Ob) (_:K) (ke:Nat→K) (kr:K)=>Ho m live (fun tm hp k=>(rO b).un c n m tm hp k ke kr) n tm hp)=_;rw[lL b];rfl
 | .exit _=>rfl
 | .ret=>rfl
 | .gh g b=>by
  show(fun(c:aJ) (n m:Nat) (tm:Tm) (hp:List Ob) (kn:K) (ke:Nat→K) (kr:K)=>ghK m g tm hp fun tm hp=>(rO b).un c n m tm hp kn ke kr)=_;rw[lL b];rfl
def agZ:Option Fn→Option Hn
 |some (.code x)=>some (.code (rO x.body).un x.res x.fz)
 |some (.prim g)=>some (.prim g)
 |some (.both g x)=>some (.both g (rO x.body).un x.res x.fz)
 |some (.any g)=>some (.any g)
 |none=>none
theorem Vs (o:Option Fn):same (agZ o) o:=by
 cases o with
 |none=>trivial
 |some x=>cases x with
  |code x=>exact⟨(lL _).symm,rfl,rfl⟩
  |prim g=>rfl
  |both g x=>exact⟨rfl,(lL _).symm,rfl,rfl⟩
  |any g=>rfl
def ad1 (P:Program)(G:ce)(s:Cfg)(f:Nat):Option Hn:=agZ (aah P G s f)
theorem V8 (P:Program)(G:ce)(s:Cfg)(f:Nat):same (ad1 P G s f) (aah P G s f):=Vs _
end
end Go.Ab
end
