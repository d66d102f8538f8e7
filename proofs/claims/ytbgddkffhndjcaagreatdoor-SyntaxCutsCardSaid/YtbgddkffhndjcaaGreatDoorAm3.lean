import Derived.Test.YtbgddkffhndjcaaGreatDoorAm0
import Derived.Test.YtbgddkffhndjcaaGreatDoorAm2
import Derived.Lib.ItoaNum
import Derived.KernelRfl
set_option linter.all false
section
namespace Go.Ab
open Go
abbrev R:=Option (D×List Ob)
abbrev K:=Tm→List Ob→R
abbrev KV:=D→List Ob→R
noncomputable section
def mD (tm:Tm)(t:Nat):D:=
 Tm.rec (motive:=fun _=>D) .junk (fun s d _ ih=>Bool.rec (motive:=fun _=>D) ih d (Nat.beq s t)) tm
theorem eT (t:Nat):∀tm,mD tm t=get tm t
 | .nil=>rfl
 | .cons s d r=>by
  show Bool.rec (motive:=fun _=>D) (mD r t) d (Nat.beq s t)=bif Nat.beq s t then d else get r t
  rw[eT t r];cases Nat.beq s t<;>rfl
def PE (tm:Tm)(a:A):D:=
 A.rec (motive:=fun _=>D) (fun n=>mD tm n) (fun x=> .p x) (fun z=> .sl .nil z []) (fun g=> .p (.fn g [])) (fun x=> .ip x 0) a
theorem Mm (tm:Tm)(a:A):PE tm a=ev tm a:=by
 cases a
 ·exact eT _ tm
 all_goals rfl
def eL (d:D)(e:R)(k:Da→R):R:=
 D.rec (motive_1:=fun _=>R) (motive_2:=fun _=>PUnit.{1})
  (fun x=>k x) (fun _ _=>e) (fun _ _=>e) (fun _ _=>e) (fun _ _ _=>e) (fun _ _=>e) (fun _ _ _ _=>e) (fun _ _ _=>e) (fun _=>e) (fun _ _ _=>e) (fun _ _ _=>e) e ⟨⟩ (fun _ _ _ _=>⟨⟩) d
def pz (x:Da)(e:R)(k:IntKind→Int→R):R:=
 Da.rec (motive_1:=fun _=>R) (motive_2:=fun _=>PUnit.{1})
  (fun _=>e) (fun i n=>k i n) (fun _=>e) (fun _ _=>e) (fun _ _ _=>e) e (fun _ _=>e) (fun _ _ _ _=>e) e (fun _ _ _=>e) e (fun _ _ _=>e) e (fun _ _ _=>e) (fun _ _=>e) ⟨⟩ (fun _ _ _ _=>⟨⟩) x
def pq (x:Da)(e:R)(t f:R):R:=
 Da.rec (motive_1:=fun _=>R) (motive_2:=fun _=>PUnit.{1})
  (fun b=>Bool.rec (motive:=fun _=>R) f t b) (fun _ _=>e) (fun _=>e) (fun _ _=>e) (fun _ _ _=>e) e (fun _ _=>e) (fun _ _ _ _=>e) e (fun _ _ _=>e) e (fun _ _ _=>e) e (fun _ _ _=>e) (fun _ _=>e) ⟨⟩ (fun _ _ _ _=>⟨⟩) x
def lg (x:Da)(e:R)(k:List Nat→R):R:=
 Da.rec (motive_1:=fun _=>R) (motive_2:=fun _=>PUnit.{1})
  (fun _=>e) (fun _ _=>e) (fun s=>k s) (fun _ _=>e) (fun _ _ _=>e) e (fun _ _=>e) (fun _ _ _ _=>e) e (fun _ _ _=>e) e (fun _ _ _=>e) e (fun _ _ _=>e) (fun _ _=>e) ⟨⟩ (fun _ _ _ _=>⟨⟩) x
def ga (x:Da)(e:R)(k:Nat→List Da→R):R:=
 Da.rec (motive_1:=fun _=>R) (motive_2:=fun _=>PUnit.{1})
  (fun _=>e) (fun _ _=>e) (fun _=>e) (fun _ _=>e) (fun z es _=>k z es) e (fun _ _=>e) (fun _ _ _ _=>e) e (fun _ _ _=>e) e (fun _ _ _=>e) e (fun z es _=>k z es) (fun _ _=>e) ⟨⟩ (fun _ _ _ _=>⟨⟩) x
def caseO {α:Type}(o:Option α)(e:R)(k:α→R):R:=Option.rec (motive:=fun _=>R) e (fun x=>k x) o
def oI (b:Bool)(t e:R):R:=Bool.rec (motive:=fun _=>R) e t b
theorem eZ (b:Bool)(t e:R):oI b t e=bif b then t else e:=by cases b<;>rfl
def bK (b:Bool)(k:D→R):R:=Bool.rec (motive:=fun _=>R) (k (.p (.bool false))) (k (.p (.bool true))) b
theorem QW (b:Bool)(k:D→R):bK b k=k (.p (.bool b)):=by cases b<;>rfl
def cN (call:aC)(base:Nat)(o:O)(kk:Nat)(vs:List D)(hp:List Ob)(k:KV):R:=
 bif !(cb o)||bV (aN hp (base+kk))then
  match kq call base o kk vs (bg o vs hp) ((bg o vs hp).map (aN hp)) hp.length with
  |none=>none
  |some (v,ups,new)=>k v (grow (aj hp ups) new)
 else none
def kc (k:IntKind):Nat:=IntKind.rec (motive:=fun _=>Nat) 0 1 2 3 4 5 6 7 k
theorem MK:∀i j:IntKind,Nat.beq (kc i) (kc j)=decide (i=j):=by
 intro i j;cases i<;>cases j<;>rfl
def fj (n:Int)(p q:Nat→R):R:=Int.rec (motive:=fun _=>R) (fun m=>p m) (fun m=>q m) n
def UZ (m n:Int)(k:Bool→R):R:=
 fj m (fun a=>fj n (fun b=>k (Nat.beq a b)) fun _=>k false) fun a=>fj n (fun _=>k false) fun b=>k (Nat.beq a b)
theorem So (m n:Int)(k:Bool→R):UZ m n k=k (eqI m n):=by cases m<;>cases n<;>rfl
def T4 (m n:Int)(k:Bool→R):R:=
 fj m (fun a=>fj n (fun b=>k (Nat.blt a b)) fun _=>k false) fun a=>fj n (fun _=>k true) fun b=>k (Nat.blt b a)
theorem SL (m n:Int)(k:Bool→R):T4 m n k=k (br m n):=by cases m<;>cases n<;>rfl
def lim (i:IntKind):Nat:=IntKind.rec (motive:=fun _=>Nat) 0 0 2147483648 9223372036854775808 256 0 4294967296 18446744073709551616 i
def M7 (i:IntKind)(m:Nat)(k:D→R):R:=oI (Nat.blt m (lim i)) (k (.p (.int i (.ofNat m)))) (k (.p (.int i (ao i (.ofNat m)))))
theorem F6 (i:IntKind)(m:Nat)(h:Nat.blt m (lim i)=true):ao i (.ofNat m)= .ofNat m:=by
 cases i<;>simp only[lim]at h;case i8=>exact absurd (Nat.ble_eq.mp h) (by omega)
 case i16=>exact absurd (Nat.ble_eq.mp h) (by omega)
 case u16=>exact absurd (Nat.ble_eq.mp h) (by omega)
 all_goals simp only[ao,h,cond_true]
theorem Qh (i:IntKind)(m:Nat)(k:D→R):M7 i m k=k (.p (.int i (ao i (.ofNat m)))):=by
 unfold M7;rw[eZ];cases h:Nat.blt m (lim i)
 ·rfl
 ·rw[F6 i m h];rfl
def ny (o:Option Da)(k:D→R):R:=caseO o none fun x=>k (.p x)
def T6 (b:Bool)(k:D→R):R:=Bool.rec (motive:=fun _=>R) (k (.p (.bool true))) (k (.p (.bool false))) b
theorem M8 (b:Bool)(k:D→R):T6 b k=k (.p (.bool (!b))):=by cases b<;>rfl
def RQ (op:BinOp)(i:IntKind)(m n:Int)(e:R)(k:D→R):R:=
 BinOp.rec (motive:=fun _=>R)
  (fj m (fun a=>fj n (fun b=>M7 i (Nat.add a b) k) fun _=>e) fun _=>e)
  (fj m (fun a=>fj n (fun b=>oI (Nat.ble b a) (M7 i (Nat.sub a b) k) e) fun _=>e) fun _=>e)
  (fj m (fun a=>fj n (fun b=>M7 i (Nat.mul a b) k) fun _=>e) fun _=>e)
  e e e e e e e e
  (UZ m n fun b=>bK b k) (UZ m n fun b=>T6 b k) (T4 m n fun b=>bK b k) (T4 n m fun b=>T6 b k) (T4 n m fun b=>bK b k) (T4 m n fun b=>T6 b k) op
theorem OI (op:BinOp)(i:IntKind)(m n:Int)(k:D→R):RQ op i m n (ny (bin op (.p (.int i m)) (.p (.int i n))) k) k=ny (bin op (.p (.int i m)) (.p (.int i n))) k:=by
 cases op<;>simp only[RQ,So,SL,QW,M8,Qh];case add=>
  cases m<;>cases n<;>try rfl
  simp[fj,bin,dD,iG,ny,caseO]
 case sub=>
  cases m<;>cases n<;>try rfl
  rename_i a b;simp only[fj,eZ];cases h:Nat.ble b a
  ·rfl
  ·have hle:=Nat.le_of_ble_eq_true h;simp only[cond_true,bin,dD,cond_false,iG,ny,caseO,if_true];congr 4;exact Int.ofNat_sub hle
 case mul=>
  cases m<;>cases n<;>try rfl
  simp[fj,bin,dD,iG,ny,caseO]
 all_goals simp[bin,dD,iG,ny,caseO,be]
def ER (a:List Nat):List Nat→Bool:=
 List.rec (motive:=fun _=>List Nat→Bool) (fun b=>List.rec (motive:=fun _=>Bool) true (fun _ _ _=>false) b)
  (fun x _ ih b=>List.rec (motive:=fun _=>Bool) false (fun y r _=>Bool.rec (motive:=fun _=>Bool) false (ih r) (Nat.beq x y)) b) a
theorem z7:∀a b,ER a b=cM a b
 |[],[]=>rfl
 |[],_::_=>rfl
 |_::_,[]=>rfl
 |x::a,y::b=>by
  show Bool.rec (motive:=fun _=>Bool) false (ER a b) (Nat.beq x y)=bif Nat.beq x y then cM a b else false
  rw[z7 a b];cases Nat.beq x y<;>rfl
def Tc (op:BinOp)(a b:List Nat)(e:R)(k:D→R):R:=
 BinOp.rec (motive:=fun _=>R) e e e e e e e e e e e (bK (ER a b) k) (T6 (ER a b) k) e e e e op
theorem Qz (op:BinOp)(a b:List Nat)(k:D→R):Tc op a b (ny (bin op (.p (.str a)) (.p (.str b))) k) k=ny (bin op (.p (.str a)) (.p (.str b))) k:=by
 cases op<;>simp only[Tc,QW,M8,z7]<;>simp[bin,ow,ny,caseO]
def OF (op:BinOp)(x y:D)(k:D→R):R:=
 eL x none fun a=>Da.rec (motive_1:=fun _=>R) (motive_2:=fun _=>PUnit.{1})
  (fun _=>none) (fun i m=>eL y none fun b=>pz b (ny (bin op x y) k) fun j n=>oI (Nat.beq (kc i) (kc j)) (RQ op i m n (ny (bin op x y) k) k) (ny (bin op x y) k))
  (fun s=>eL y none fun b=>lg b none fun t=>Tc op s t (ny (bin op x y) k) k)
  (fun _ _=>none) (fun _ _ _=>none) none (fun _ _=>none) (fun _ _ _ _=>none) none (fun _ _ _=>none) none (fun _ _ _=>none) none (fun _ _ _=>none) (fun _ _=>ny (bin op x y) k) ⟨⟩ (fun _ _ _ _=>⟨⟩) a
theorem Ih (op:BinOp)(a:Da)(y:D)(h:yY a=none)(hs:∀s,a≠ .str s):bin op (.p a) y=none:=by
 cases y<;>try (cases a<;>rfl)
 rename_i b;cases a<;>simp only[yY,reduceCtorEq]at h<;>first
  |rfl
  |exact absurd rfl (hs _)
theorem OG (op:BinOp)(x y:D)(k:D→R):OF op x y k=ny (bin op x y) k:=by
 cases x<;>try rfl
 rename_i a;cases a;case int i m=>
  cases y<;>try rfl
  rename_i b;cases b<;>try rfl
  rename_i j n;show oI (Nat.beq (kc i) (kc j)) _ _=_;rw[MK,eZ];by_cases h:i=j
  ·subst h;simp only[decide_true,cond_true];exact OI op i m n k
  ·simp[h]
 case str s=>
  cases y<;>try rfl
  rename_i b;cases b<;>try rfl
  exact Qz op s _ k
 case sym i s=>rfl
 all_goals (rw[Ih op _ y rfl (by intro s h;cases h)];rfl)
def Nq (c a b:D)(k:D→R):R:=eL c none fun x=>pq x none (k a) (k b)
def SR (d:D)(k:D→R):R:=eL d none fun x=>pq x none (k (.p (.bool false))) (k (.p (.bool true)))
def C8 {α:Type}(l:List α)(i:Nat)(k:α→R):R:=
 List.rec (motive:=fun _=>Nat→R) (fun _=>none) (fun x _ ih i=>Nat.rec (motive:=fun _=>R) (k x) (fun i _=>ih i) i) l i
theorem qe {α:Type}(k:α→R):∀(l:List α) (i:Nat),C8 l i k=caseO l[i]? none k
 |[],i=>by simp[C8,caseO]
 |x::r,0=>rfl
 |x::r,i+1=>by
  show C8 r i k=_;rw[qe k r i];simp
def tl {α:Type}(l:List α):List α:=List.rec (motive:=fun _=>List α) [] (fun _ t _=>t) l
def Up {α:Type}(l:List α):List α:=tl (tl (tl (tl l)))
def QE {α:Type}(l:List α):List α:=Up (Up (Up (Up l)))
def Gt {α:Type}(l:List α)(j:Nat):List α:=Nat.rec (motive:=fun _=>List α) l (fun _ ih=>QE ih) j
theorem NL {α:Type}(l:List α):tl l=l.drop 1:=by cases l<;>rfl
theorem QF {α:Type}(l:List α):QE l=l.drop 16:=by
 simp only[QE,Up,NL,mν]
theorem vq {α:Type}(l:List α):∀j,Gt l j=l.drop (16*j)
 |0=>rfl
 |j+1=>by
  show QE (Gt l j)=_;rw[QF,vq l j,mν];congr 1
def PV {α:Type}(l:List α)(i:Nat)(k:α→R):R:=C8 (Gt l (Nat.div i 16)) (Nat.mod i 16) k
theorem GO {α:Type}(l:List α)(i:Nat)(k:α→R):PV l i k=caseO l[i]? none k:=by
 unfold PV;rw[qe,vq,List.getElem?_drop];congr 2;exact Nat.div_add_mod i 16
def Vm (es:List Da)(i:Int)(k:Da→R):R:=fj i (fun j=>PV es j k) fun _=>none
theorem RM (es:List Da)(i:Int)(k:Da→R):Vm es i k=caseO (jW es i) none k:=by
 cases i with
 |ofNat j=>exact GO es j k
 |negSucc j=>rfl
def U5 (esz:Nat)(x i:D)(e:R)(k:D→R):R:=
 eL x e fun x=>ga x none fun z es=>eL i none fun i=>pz i none fun _ i=>oI (Nat.beq z esz) (Vm es i fun y=>k (.ip y 0)) none
def UA (x i:D)(k:D→R):R:=
 eL x none fun x=>lg x none fun s=>eL i none fun i=>pz i none fun _ i=>fj i (fun j=>PV s j fun b=>k (.p (.int .u8 (Int.ofNat b)))) fun _=>none
def Vt (off:Nat)(d:D)(e:R)(k:D→R):R:=
 D.rec (motive_1:=fun _=>R) (motive_2:=fun _=>PUnit.{1})
  (fun _=>e) (fun _ _=>none) (fun _ _=>none) (fun id o=>k (.box id (o+off))) (fun id i o=>k (.el id i (o+off))) (fun x o=>k (.ip x (o+off)))
  (fun _ _ _ _=>none) (fun _ _ _=>none) (fun _=>none) (fun _ _ _=>none) (fun _ _ _=>none) none ⟨⟩ (fun _ _ _ _=>⟨⟩) d
def Nc (d:D)(e:R)(k:D→R):R:=
 D.rec (motive_1:=fun _=>R) (motive_2:=fun _=>PUnit.{1})
  (fun _=>e) (fun _ _=>none) (fun _ _=>none) (fun _ _=>k d) (fun _ _ _=>k d) (fun _ _=>k d)
  (fun _ _ _ _=>none) (fun _ _ _=>none) (fun _=>none) (fun _ _ _=>k d) (fun _ _ _=>k d) none ⟨⟩ (fun _ _ _ _=>⟨⟩) d
def jm (o:Ob)(e:R)(k:List D→R):R:=
 Ob.rec (motive:=fun _=>R) (fun cs=>k cs) (fun _=>e) (fun _=>e) (fun _ _=>e) (fun _ _=>e) e e (fun _ _=>e) (fun _=>e) o
def AE (d:D)(hp:List Ob)(e:R)(k:D→R):R:=
 D.rec (motive_1:=fun _=>R) (motive_2:=fun _=>PUnit.{1})
  (fun _=>e) (fun _ _=>none) (fun _ _=>none)
  (fun id off=>C8 hp id fun o=>jm o none fun cs=>C8 cs off k)
  (fun _ _ _=>e)
  (fun x off=>C8 (cells x) off fun x=>k (.p x))
  (fun _ _ _ _=>none) (fun _ _ _=>none) (fun _=>none) (fun _ _ _=>none) (fun _ _ _=>none) none ⟨⟩ (fun _ _ _ _=>⟨⟩) d
def PH (i:Nat)(d:D)(k:D→R):R:=
 D.rec (motive_1:=fun _=>R) (motive_2:=fun _=>PUnit.{1})
  (fun _=>none) (fun _ _=>none) (fun ds _=>C8 ds i k) (fun _ _=>none) (fun _ _ _=>none) (fun _ _=>none)
  (fun _ _ _ _=>none) (fun _ _ _=>none) (fun _=>none) (fun _ _ _=>none) (fun _ _ _=>none) none ⟨⟩ (fun _ _ _ _=>⟨⟩) d
def CU {α:Type}(l:List α):Nat:=List.rec (motive:=fun _=>Nat) 0 (fun _ _ ih=>Nat.succ ih) l
theorem jr {α:Type}:∀l:List α,CU l=l.length
 |[]=>rfl
 |_::r=>congrArg Nat.succ (jr r)
def rS (d:D)(k:Nat→R):R:=
 D.rec (motive_1:=fun _=>R) (motive_2:=fun _=>PUnit.{1})
  (fun x=>ga x none fun _ es=>k (CU es)) (fun _ _=>none) (fun _ _=>none) (fun _ _=>none) (fun _ _ _=>none) (fun _ _=>none) (fun _ _ len _=>k len) (fun _ _ es=>k (CU es)) (fun _=>none) (fun _ _ _=>none) (fun _ _ _=>none) none ⟨⟩ (fun _ _ _ _=>⟨⟩) d
theorem Jn (d:D)(k:Nat→R):rS d k=caseO (qq d) none k:=by
 cases d<;>try rfl
 ·rename_i x;cases x<;>try rfl
  ·simp only[rS,eL,ga,jr,qq,caseO]
  ·simp only[rS,eL,ga,jr,qq,caseO]
 ·simp only[rS,jr,qq,caseO]
def P7 (n:Nat)(k:D→R):R:=Nat.rec (motive:=fun _=>R) (k (.p (.int .i64 (.ofNat 0)))) (fun m _=>k (.p (.int .i64 (.ofNat (Nat.succ m))))) n
theorem GV (n:Nat)(k:D→R):P7 n k=k (.p (Bg n)):=by cases n<;>rfl
def SH (kd:Nat)(d:D)(e:R)(k:D→R):R:=
 Nat.rec (motive:=fun _=>R) (eL d none fun x=>lg x none fun s=>P7 (CU s) k)
  (fun j _=>Nat.rec (motive:=fun _=>R) (rS d fun n=>P7 n k) (fun _ _=>e) j) kd
theorem Di {α:Type}(cs:List α)(off:Nat):sub cs off 1=cs[off]?.map fun x=>[x]:=by
 unfold sub;cases h:Nat.ble (off+1) cs.length
 ·have:cs.length≤off:=by
   rcases lν off cs.length with h1|h1
   ·rw[Nat.ble_eq.mpr h1]at h;cases h
   ·exact h1
  simp[lδ this]
 ·have h1:off<cs.length:=Nat.ble_eq.mp h;simp[lε h1,List.take_one,List.head?_drop]
def gY (o:Option ea)(k:D→R):R:=caseO o none fun e=>k e.1
def kf:O→Bool
 | .mv=>true
 | .pick=>true
 | .build _ _=>true
 | .load _ _=>true
 | .nilck=>true
 | .bin _=>true
 | .binB _=>true
 | .binN _ _=>true
 | .binS _ _=>true
 | .un _=>true
 | .conv _=>true
 | .mkif _=>true
 | .mkfn _=>true
 | .slStr _ _=>true
 | .fa _=>true
 | .fld _ _ _=>true
 | .ia _=>true
 | .iaa _ _=>true
 | .ix=>true
 | .lkp _ _ _=>true
 | .ext _=>true
 | .len _=>true
 | .cap=>true
 | .min2=>true
 | .max2=>true
 | .same=>true
 | .assertT _ _ _=>true
 | .b2s=>true
 | .s2b=>true
 |_=>false
def Dp (o:Option ea):Prop:=∀e,o=some e→e.2=([],[])
theorem wG:Dp none:=by intro e h;cases h
theorem yU (d:D):Dp (val d):=by intro e h;cases h;rfl
theorem FG (o:Option Da):Dp (jb o):=by cases o<;>(intro e h;cases h;try rfl)
theorem FF (kt:TypeDesc)(z:D)(ok:Bool)(ks:List Da)(ws:List D)(k:D):Dp (MV kt z ok ks ws k):=by
 unfold MV;repeat' split
 all_goals first
  |exact wG
  |exact yU _
theorem sK {call:aC}{base kk:Nat}{o:O}{vs:List D}{ids:List Nat}{obs:List Ob}{len:Nat}(h:kf o=true):Dp (kq call base o kk vs ids obs len):=by
 cases o<;>simp only[kf,Bool.false_eq_true]at h<;>
  simp only[kq,Ti,xV,oo,fh,oq,xw,Gb,Gc,uU,TC,Gd,Gf,BW,BV,la,RC,BR,Ge,BS,Ov,zG,Er,H9,Kr,BU,BT,mg,H7,Kt]<;>
  (repeat' (first|exact wG|exact yU _|exact FG _|exact FF _ _ _ _ _ _|split|(simp only[cond_eq_ite])))
theorem sJ {o:O}(h:kf o=true):cb o=false:=by
 cases o<;>simp_all [kf,cb]
section eqs
variable {call:aC} {base kk:Nat} {hp:List Ob} {k:KV}
theorem bD {o:O}{vs:List D}(h:kf o=true):cN call base o kk vs hp k=gY (kq call base o kk vs (bg o vs hp) ((bg o vs hp).map (aN hp)) hp.length) fun v=>k v hp:=by
 have hq:=sK (call:=call) (base:=base) (kk:=kk) (vs:=vs) (ids:=bg o vs hp) (obs:=(bg o vs hp).map (aN hp)) (len:=hp.length) h;simp only[cN,sJ h,Bool.not_false,Bool.true_or,cond_true];cases ha:kq call base o kk vs (bg o vs hp) ((bg o vs hp).map (aN hp)) hp.length with
 |none=>rfl
 |some e=>
  obtain⟨v,ups,new⟩:=e;have:=hq _ ha;simp only[lι]at this;obtain⟨rfl,rfl⟩:=this;rfl
theorem IC {o:Option Da}{k:D→R}:gY (jb o) k=ny o k:=by cases o<;>rfl
theorem OJ (op:BinOp)(x y:D):cN call base (.bin op) kk [x,y] hp k=OF op x y fun v=>k v hp:=by
 rw[OG,bD rfl];exact IC
theorem Nt (c a b:D):cN call base .pick kk [c,a,b] hp k=Nq c a b fun v=>k v hp:=by
 rw[bD rfl];cases c<;>try rfl
 rename_i x;cases x<;>try rfl
 rename_i b;cases b<;>rfl
theorem Qi (x:D):cN call base (.un .not) kk [x] hp k=SR x fun v=>k v hp:=by
 rw[bD rfl];cases x<;>try rfl
 rename_i x;cases x<;>try rfl
 rename_i b;cases b<;>rfl
theorem Sz (esz:Nat)(x i:D):cN call base (.ia esz) kk [x,i] hp k=U5 esz x i (gY (Ge esz [x,i]) fun v=>k v hp) fun v=>k v hp:=by
 rw[bD rfl];show gY (Ge esz [x,i]) (fun v=>k v hp)=_;cases x<;>try rfl
 rename_i x;cases x<;>try rfl
 all_goals
  rename_i z es;cases i<;>try rfl
  rename_i i;cases i<;>try rfl
  rename_i q i;simp only[Ge,U5,eL,ga,pz,eZ,RM];cases Nat.beq z esz
  ·rfl
  ·simp only[cond_true];cases jW es i<;>rfl
theorem SE (x i:D):cN call base .ix kk [x,i] hp k=UA x i fun v=>k v hp:=by
 rw[bD rfl];show gY (Ov [x,i]) (fun v=>k v hp)=_;cases x<;>try rfl
 rename_i x;cases x<;>try rfl
 rename_i s;cases i<;>try rfl
 rename_i i;cases i<;>try rfl
 rename_i q i;simp only[Ov,UA,eL,lg,pz];cases i with
 |negSucc j=>rfl
 |ofNat j=>
  simp only[fj,GO];have h:(bif be 0 (Int.ofNat j)then s[(Int.ofNat j).toNat]? else none)=s[j]?:=rfl;rw[h];cases s[j]?<;>rfl
theorem Sr (off:Nat)(x:D):cN call base (.fa off) kk [x] hp k=Vt off x (gY (RC off [x]) fun v=>k v hp) fun v=>k v hp:=by
 rw[bD rfl];cases x<;>rfl
theorem I9 (x:D):cN call base .nilck kk [x] hp k=Nc x (gY (oq [x]) fun v=>k v hp) fun v=>k v hp:=by
 rw[bD rfl];cases x<;>rfl
theorem PI (i:Nat)(x:D):cN call base (.ext i) kk [x] hp k=PH i x fun v=>k v hp:=by
 rw[bD rfl];cases x<;>try rfl
 rename_i ds;show gY (Er i [.tup ds]) (fun v=>k v hp)=_;simp only[Er,PH,qe];cases ds[i]?<;>rfl
theorem P8 (kd:Nat)(x:D):cN call base (.len kd) kk [x] hp k=SH kd x (gY (H9 kd [x] (bg (.len kd) [x] hp) ((bg (.len kd) [x] hp).map (aN hp))) fun v=>k v hp) fun v=>k v hp:=by
 rw[bD rfl];match kd with
 |0=>
  cases x<;>try rfl
  rename_i x;cases x<;>try rfl
  simp only[SH,eL,lg,GV,jr];rfl
 |1=>
  show gY (match qq x with|some n=>val (.p (Bg n))|none=>none) _=rS x fun n=>P7 n fun v=>k v hp
  simp only[Jn,GV];cases qq x<;>rfl
 |n+2=>rfl
theorem I6 (x:D):cN call base (.load 1 false) kk [x] hp k=AE x hp (gY (fh 1 false [x] ((dids x).map (aN hp))) fun v=>k v hp) fun v=>k v hp:=by
 rw[bD rfl];cases x<;>try rfl
 ·rename_i id off;show gY (fh 1 false [.box id off] [aN hp id]) (fun v=>k v hp)=_;simp only[AE,qe,fh,aN,lρ];cases hp[id]? with
  |none=>rfl
  |some o=>
   cases o<;>try rfl
   rename_i cs;simp only[Option.getD_some,Di,caseO,jm];cases cs[off]?<;>rfl
 ·rename_i x off;show gY (fh 1 false [.ip x off] []) (fun v=>k v hp)=_;simp only[AE,qe,fh,Di];cases(cells x)[off]?<;>rfl
end eqs
end
end Go.Ab
end
section
namespace Go.Ab
open Go
noncomputable section
def forceN (m:Nat)(k:Nat→R):R:=Nat.rec (motive:=fun _=>R) (k 0) (fun m _=>k (Nat.succ m)) m
theorem ir (m:Nat)(k:Nat→R):forceN m k=k m:=by cases m<;>rfl
def Ai (n:Int)(k:Int→R):R:=fj n (fun m=>forceN m fun m=>k (.ofNat m)) fun m=>forceN m fun m=>k (.negSucc m)
theorem yn (n:Int)(k:Int→R):Ai n k=k n:=by cases n<;>simp only[Ai,fj,ir]
def forceNs (l:List Nat)(k:List Nat→R):R:=
 List.rec (motive:=fun _=>(List Nat→R)→R) (fun k=>k []) (fun x _ ih k=>forceN x fun x=>ih fun r=>k (x::r)) l k
theorem iQ:∀(l:List Nat) (k:List Nat→R),forceNs l k=k l
 |[],k=>rfl
 |x::r,k=>by
  show forceN x (fun x=>forceNs r fun r=>k (x::r))=_;rw[ir,iQ r]
def m7 (x:Da)(k:Da→R):R:=
 Da.rec (motive_1:=fun _=>R) (motive_2:=fun _=>PUnit.{1})
  (fun b=>Bool.rec (motive:=fun _=>R) (k (.bool false)) (k (.bool true)) b) (fun i n=>Ai n fun n=>k (.int i n)) (fun s=>k (.str s)) (fun cs _=>k (.agg cs)) (fun z es _=>k (.slice z es)) (k .nilptr) (fun x _=>k (.ptr x)) (fun ks vs _ _=>k (.map ks vs)) (k .nilmap) (fun f cs _=>k (.fn f cs)) (k .nilfn) (fun t x _=>k (.iface t x)) (k .nilif) (fun z es _=>k (.sliceE z es)) (fun i s=>k (.sym i s)) ⟨⟩ (fun _ _ _ _=>⟨⟩) x
theorem oD (x:Da)(k:Da→R):m7 x k=k x:=by
 cases x<;>try rfl
 ·rename_i b;cases b<;>rfl
 ·simp only[m7,yn]
def gf (d:D)(k:D→R):R:=
 D.rec (motive_1:=fun _=>R) (motive_2:=fun _=>PUnit.{1})
  (fun x=>m7 x fun x=>k (.p x)) (fun cs _=>k (.agg cs)) (fun ds _=>k (.tup ds)) (fun id off=>forceN id fun id=>forceN off fun off=>k (.box id off)) (fun id i off=>forceN id fun id=>forceN i fun i=>forceN off fun off=>k (.el id i off)) (fun x off=>k (.ip x off))
  (fun id lo len z=>forceN id fun id=>forceN lo fun lo=>forceN len fun len=>k (.arr id lo len z)) (fun g z es=>k (.sl g z es)) (fun id=>forceN id fun id=>k (.map id)) (fun f cs _=>k (.fn f cs)) (fun t d _=>k (.iface t d)) (k .junk) ⟨⟩ (fun _ _ _ _=>⟨⟩) d
theorem jZ (d:D)(k:D→R):gf d k=k d:=by
 cases d<;>simp only[gf,ir,oD]
def forceTm (tm:Tm)(k:Tm→R):R:=
 Tm.rec (motive:=fun _=>(Tm→R)→R) (fun k=>k .nil) (fun s d _ ih k=>gf d fun d=>ih fun r=>k (.cons s d r)) tm k
theorem oF:∀(tm:Tm) (k:Tm→R),forceTm tm k=k tm
 | .nil,k=>rfl
 | .cons s d r,k=>by
  show gf d (fun d=>forceTm r fun r=>k (.cons s d r))=_;rw[jZ,oF r]
def forceDs (ds:List D)(k:List D→R):R:=
 List.rec (motive:=fun _=>(List D→R)→R) (fun k=>k []) (fun d _ ih k=>gf d fun d=>ih fun r=>k (d::r)) ds k
theorem eY:∀(ds:List D) (k:List D→R),forceDs ds k=k ds
 |[],k=>rfl
 |d::r,k=>by
  show gf d (fun d=>forceDs r fun r=>k (d::r))=_;rw[jZ,eY r]
def pL (ds:List Da)(k:List Da→R):R:=
 List.rec (motive:=fun _=>(List Da→R)→R) (fun k=>k []) (fun d _ ih k=>m7 d fun d=>ih fun r=>k (d::r)) ds k
theorem lk:∀(ds:List Da) (k:List Da→R),pL ds k=k ds
 |[],k=>rfl
 |d::r,k=>by
  show m7 d (fun d=>pL r fun r=>k (d::r))=_;rw[oD,lk r]
def tT (o:Ob)(k:Ob→R):R:=
 Ob.rec (motive:=fun _=>R) (fun cs=>forceDs cs fun cs=>k (.box cs)) (fun es=>pL es fun es=>k (.arr es)) (fun es=>k (.fz es)) (fun ks vs=>k (.map ks vs)) (fun ks vs=>k (.fzm ks vs)) (k .dead) (k .unborn) (fun ks vs=>forceDs vs fun vs=>k (.mapd ks vs)) (fun es=>k (.byt es)) o
theorem EW (o:Ob)(k:Ob→R):tT o k=k o:=by
 cases o<;>simp only[tT,eY,lk]
def tS (hp:List Ob)(k:List Ob→R):R:=
 List.rec (motive:=fun _=>(List Ob→R)→R) (fun k=>k []) (fun o _ ih k=>tT o fun o=>ih fun r=>k (o::r)) hp k
theorem oE:∀(hp:List Ob) (k:List Ob→R),tS hp k=k hp
 |[],k=>rfl
 |o::r,k=>by
  show tT o (fun o=>tS r fun r=>k (o::r))=_;rw[EW,oE r]
def tR (o:Ob)(k:Ob→R):R:=
 Ob.rec (motive:=fun _=>R) (fun cs=>forceDs cs fun cs=>k (.box cs)) (fun es=>k (.arr es)) (fun es=>k (.fz es)) (fun ks vs=>k (.map ks vs)) (fun ks vs=>k (.fzm ks vs)) (k .dead) (k .unborn) (fun ks vs=>forceDs vs fun vs=>k (.mapd ks vs)) (fun es=>k (.byt es)) o
theorem EV (o:Ob)(k:Ob→R):tR o k=k o:=by
 cases o<;>simp only[tR,eY]
def forceHb (hp:List Ob)(k:List Ob→R):R:=
 List.rec (motive:=fun _=>(List Ob→R)→R) (fun k=>k []) (fun o _ ih k=>tR o fun o=>ih fun r=>k (o::r)) hp k
theorem iP:∀(hp:List Ob) (k:List Ob→R),forceHb hp k=k hp
 |[],k=>rfl
 |o::r,k=>by
  show tR o (fun o=>forceHb r fun r=>k (o::r))=_;rw[EV,iP r]
def Qe (l:List Nat)(x:Nat):Bool:=List.rec (motive:=fun _=>Bool) false (fun y _ ih=>Bool.rec (motive:=fun _=>Bool) ih true (Nat.beq x y)) l
theorem G0 (x:Nat):∀l,Qe l x=l.contains x
 |[]=>rfl
 |y::r=>by
  show Bool.rec (motive:=fun _=>Bool) (Qe r x) true (Nat.beq x y)=_;rw[G0 x r,List.contains_cons];have:(x==y)=Nat.beq x y:=by rw[mβ,beq_iff_eq,Nat.beq_eq]
  rw[this];cases Nat.beq x y<;>rfl
def Hk (l:List Nat)(x:Nat):List Nat:=List.rec (motive:=fun _=>List Nat) [x] (fun y _ ih=>y::ih) l
theorem DC (x:Nat):∀l,Hk l x=l++[x]
 |[]=>rfl
 |y::r=>by
  show y::Hk r x=_;rw[DC x r];rfl
def Bi (hp:List Ob)(i:Nat):Ob:=List.rec (motive:=fun _=>Nat→Ob) (fun _=> .dead) (fun o _ ih i=>Nat.rec (motive:=fun _=>Ob) o (fun i _=>ih i) i) hp i
theorem jN:∀(hp:List Ob) (i:Nat),Bi hp i=hp.getD i .dead
 |[],i=>by simp[Bi]
 |o::r,0=>rfl
 |o::r,i+1=>by
  show Bi r i=_;rw[jN r i];simp
def yg (d:D):List Nat→List Nat:=
 D.rec (motive_1:=fun _=>List Nat→List Nat) (motive_2:=fun _=>List Nat→List Nat)
  (fun _ ws=>ws) (fun _ ih ws=>ih ws) (fun _ ih ws=>ih ws) (fun id _ ws=>id::ws) (fun id _ _ ws=>id::ws) (fun _ _ ws=>ws)
  (fun id _ _ _ ws=>id::ws) (fun _ _ _ ws=>ws) (fun id ws=>id::ws) (fun _ _ ih ws=>ih ws) (fun _ _ ih ws=>ih ws) (fun ws=>ws) (fun ws=>ws) (fun _ _ ihd ihr ws=>ihd (ihr ws)) d
def dA (ds:List D)(ws:List Nat):List Nat:=List.rec (motive:=fun _=>List Nat) ws (fun d _ ih=>yg d ih) ds
mutual
theorem pB:∀(d:D) (ws:List Nat),yg d ws=dids d++ws
 | .p _,ws=>rfl
 | .agg cs,ws=>pD cs ws
 | .tup cs,ws=>pD cs ws
 | .box _ _,ws=>rfl
 | .el _ _ _,ws=>rfl
 | .ip _ _,ws=>rfl
 | .arr _ _ _ _,ws=>rfl
 | .sl _ _ _,ws=>rfl
 | .map _,ws=>rfl
 | .fn _ cs,ws=>pD cs ws
 | .iface _ d,ws=>pB d ws
 | .junk,ws=>rfl
theorem pD:∀(ds:List D) (ws:List Nat),D.rec_1 (motive_1:=fun _=>List Nat→List Nat) (motive_2:=fun _=>List Nat→List Nat)
  (fun _ ws=>ws) (fun _ ih ws=>ih ws) (fun _ ih ws=>ih ws) (fun id _ ws=>id::ws) (fun id _ _ ws=>id::ws) (fun _ _ ws=>ws)
  (fun id _ _ _ ws=>id::ws) (fun _ _ _ ws=>ws) (fun id ws=>id::ws) (fun _ _ ih ws=>ih ws) (fun _ _ ih ws=>ih ws) (fun ws=>ws) (fun ws=>ws) (fun _ _ ihd ihr ws=>ihd (ihr ws)) ds ws=dids.didsL ds++ws
 |[],ws=>rfl
 |d::r,ws=>by
  show yg d (D.rec_1 (motive_1:=fun _=>List Nat→List Nat) (motive_2:=fun _=>List Nat→List Nat) _ _ _ _ _ _ _ _ _ _ _ _ _ _ r ws)=_;rw[pB d,pD r];simp only[dids.didsL,mζ]
end
theorem cT (ws:List Nat):∀ds,dA ds ws=dids.didsL ds++ws
 |[]=>rfl
 |d::r=>by
  show yg d (dA r ws)=_;rw[pB,cT ws r];simp only[dids.didsL,mζ]
def wh (o:Ob)(ws:List Nat):List Nat:=Ob.rec (motive:=fun _=>List Nat) (fun cs=>dA cs ws) (fun _=>ws) (fun _=>ws) (fun _ _=>ws) (fun _ _=>ws) ws ws (fun _ vs=>dA vs ws) (fun _=>ws) o
theorem yL (o:Ob)(ws:List Nat):wh o ws=gR o++ws:=by
 cases o<;>first|rfl|exact cT ws _
def eh (hp:List Ob)(n:Nat):List Nat→List Nat→List Nat:=
 Nat.rec (motive:=fun _=>List Nat→List Nat→List Nat) (fun _ acc=>acc)
  (fun _ ih ws acc=>List.rec (motive:=fun _=>List Nat) acc (fun id ws _=>Bool.rec (motive:=fun _=>List Nat) (ih (wh (Bi hp id) ws) (Hk acc id)) (ih ws acc) (Qe acc id)) ws) n
theorem cz (hp:List Ob):∀(n:Nat) (ws acc:List Nat),eh hp n ws acc=close hp n ws acc
 |0,ws,acc=>rfl
 |n+1,[],acc=>rfl
 |n+1,id::ws,acc=>by
  show Bool.rec (motive:=fun _=>List Nat) (eh hp n (wh (Bi hp id) ws) (Hk acc id)) (eh hp n ws acc) (Qe acc id)=_;rw[cz hp n,cz hp n,G0,DC,yL,jN];simp only[close];cases acc.contains id<;>simp
def hC (ids:List Nat)(id:Nat):Option Nat:=
 List.rec (motive:=fun _=>Nat→Option Nat) (fun _=>none) (fun x _ ih n=>Bool.rec (motive:=fun _=>Option Nat) (ih (Nat.succ n)) (some n) (Nat.beq x id)) ids 0
theorem ib (ids:List Nat):hC ids=idx ids:=by
 funext id
 have go:∀(l:List Nat) (n:Nat),List.rec (motive:=fun _=>Nat→Option Nat) (fun _=>none) (fun x _ ih n=>Bool.rec (motive:=fun _=>Option Nat) (ih (Nat.succ n)) (some n) (Nat.beq x id)) l n=idx.go id l n:=by
  intro l;induction l with
  |nil=>intro n;rfl
  |cons x r ih=>
   intro n;show Bool.rec (motive:=fun _=>Option Nat) _ (some n) (Nat.beq x id)=bif Nat.beq x id then some n else idx.go id r (n+1)
   rw[←ih (n+1)];cases Nat.beq x id<;>rfl
 exact go ids 0
def fS (σ:Nat→Option Nat)(d:D):D:=
 D.rec (motive_1:=fun _=>D) (motive_2:=fun _=>List D)
  (fun x=> .p x) (fun _ ih=> .agg ih) (fun _ ih=> .tup ih) (fun id off=>Option.rec (motive:=fun _=>D) .junk (fun j=> .box j off) (σ id)) (fun id i off=>Option.rec (motive:=fun _=>D) .junk (fun j=> .el j i off) (σ id)) (fun x off=> .ip x off)
  (fun id lo len z=>Option.rec (motive:=fun _=>D) .junk (fun j=> .arr j lo len z) (σ id)) (fun g z es=> .sl g z es) (fun id=>Option.rec (motive:=fun _=>D) .junk (fun j=> .map j) (σ id)) (fun f _ ih=> .fn f ih) (fun t _ ih=> .iface t ih) .junk [] (fun _ _ ihd ihr=>ihd::ihr) d
def eI (σ:Nat→Option Nat)(ds:List D):List D:=List.rec (motive:=fun _=>List D) [] (fun d _ ih=>fS σ d::ih) ds
mutual
theorem eN (σ:Nat→Option Nat):∀(d:D),fS σ d=mapD σ d
 | .p _=>rfl
 | .agg cs=>by show D.agg _=_;rw[qb σ cs];rfl
 | .tup cs=>by show D.tup _=_;rw[qb σ cs];rfl
 | .box id _=>by simp only[fS,mapD];cases σ id<;>rfl
 | .el id _ _=>by simp only[fS,mapD];cases σ id<;>rfl
 | .ip _ _=>rfl
 | .arr id _ _ _=>by simp only[fS,mapD];cases σ id<;>rfl
 | .sl _ _ _=>rfl
 | .map id=>by simp only[fS,mapD];cases σ id<;>rfl
 | .fn _ cs=>by show D.fn _ _=_;rw[qb σ cs];rfl
 | .iface _ d=>by
  show D.iface _ (fS σ d)=_;rw[eN σ d];rfl
 | .junk=>rfl
theorem qb (σ:Nat→Option Nat):∀(ds:List D),D.rec_1 (motive_1:=fun _=>D) (motive_2:=fun _=>List D)
  (fun x=> .p x) (fun _ ih=> .agg ih) (fun _ ih=> .tup ih) (fun id off=>Option.rec (motive:=fun _=>D) .junk (fun j=> .box j off) (σ id)) (fun id i off=>Option.rec (motive:=fun _=>D) .junk (fun j=> .el j i off) (σ id)) (fun x off=> .ip x off)
  (fun id lo len z=>Option.rec (motive:=fun _=>D) .junk (fun j=> .arr j lo len z) (σ id)) (fun g z es=> .sl g z es) (fun id=>Option.rec (motive:=fun _=>D) .junk (fun j=> .map j) (σ id)) (fun f _ ih=> .fn f ih) (fun t _ ih=> .iface t ih) .junk [] (fun _ _ ihd ihr=>ihd::ihr) ds=mapD.mapDL σ ds
 |[]=>rfl
 |d::r=>by
  show fS σ d::_=_;rw[qb σ r,eN σ d];rfl
end
theorem gm (σ:Nat→Option Nat):∀ds,eI σ ds=mapD.mapDL σ ds
 |[]=>rfl
 |d::r=>by
  show fS σ d::eI σ r=_;rw[eN,gm σ r];rfl
def mG (σ:Nat→Option Nat)(o:Ob):Ob:=Ob.rec (motive:=fun _=>Ob) (fun cs=> .box (eI σ cs)) (fun es=> .arr es) (fun es=> .fz es) (fun ks vs=> .map ks vs) (fun ks vs=> .fzm ks vs) .dead .unborn (fun ks vs=> .mapd ks (eI σ vs)) (fun es=> .byt es) o
theorem yE (σ:Nat→Option Nat)(o:Ob):mG σ o=bB σ o:=by
 cases o<;>try rfl
 ·simp only[mG,bB,gm]
 ·simp only[mG,bB,gm]
def lx (ids:List Nat)(hp:List Ob):List Ob:=List.rec (motive:=fun _=>List Ob) [] (fun i _ ih=>mG (hC ids) (Bi hp i)::ih) ids
theorem iZ (ids:List Nat)(hp:List Ob):lx ids hp=bt ids hp:=by
 have go:∀l:List Nat,List.rec (motive:=fun _=>List Ob) [] (fun i _ ih=>mG (hC ids) (Bi hp i)::ih) l=l.map fun i=>bB (idx ids) (aN hp i):=by
  intro l;induction l with
  |nil=>rfl
  |cons x r ih=>
   show mG (hC ids) (Bi hp x)::_=_;rw[ih,yE,ib,jN];rfl
 exact go ids
def lC (σ:Nat→Option Nat)(hp:List Ob):List Ob:=List.rec (motive:=fun _=>List Ob) [] (fun o _ ih=>mG σ o::ih) hp
theorem j3 (σ:Nat→Option Nat):∀hp,lC σ hp=hp.map (bB σ)
 |[]=>rfl
 |o::r=>by
  show mG σ o::lC σ r=_;rw[yE,j3 σ r];rfl
def gC (m:Nat)(hp:List Ob):List Nat:=List.rec (motive:=fun _=>Nat→List Nat) (fun _=>[]) (fun o _ ih m=>Nat.rec (motive:=fun _=>List Nat) [] (fun m _=>wh o (ih m)) m) hp m
theorem gq:∀(hp:List Ob) (m:Nat),gC m hp=(hp.take m).flatMap gR
 |[],m=>by simp[gC]
 |o::r,0=>rfl
 |o::r,m+1=>by
  show wh o (gC m r)=_;rw[yL,gq r m];simp
def xP (hp:List Ob)(i:Nat)(o:Ob)(k:List Ob→R):R:=
 List.rec (motive:=fun _=>Nat→(List Ob→R)→R) (fun _ k=>k []) (fun x r ih i k=>Nat.rec (motive:=fun _=>R) (k (o::r)) (fun i _=>ih i fun r=>k (x::r)) i) hp i k
theorem qo (o:Ob):∀(hp:List Ob) (i:Nat) (k:List Ob→R),xP hp i o k=k (qp hp i o)
 |[],i,k=>by simp[xP,qp]
 |x::r,0,k=>rfl
 |x::r,i+1,k=>by
  show xP r i o (fun r=>k (x::r))=_;rw[qo o r i];rfl
def Uq (o:Ob)(t:R):R:=Ob.rec (motive:=fun _=>R) (fun _=>none) (fun _=>none) (fun _=>none) (fun _ _=>none) (fun _ _=>none) none t (fun _ _=>none) (fun _=>none) o
theorem F3 (o:Ob)(t:R):Uq o t=bif bV o then t else none:=by cases o<;>rfl
def Hm (l:List Nat)(n:Nat)(k:List Nat→R):R:=
 List.rec (motive:=fun _=>Nat→(List Nat→R)→R) (fun _ k=>k []) (fun x _ ih n k=>Nat.rec (motive:=fun _=>R) (k []) (fun n _=>ih n fun r=>k (x::r)) n) l n k
theorem DE:∀(l:List Nat) (n:Nat) (k:List Nat→R),Hm l n k=k (l.take n)
 |[],n,k=>by simp[Hm]
 |x::r,0,k=>rfl
 |x::r,n+1,k=>by
  show Hm r n (fun r=>k (x::r))=_;rw[DE r n];rfl
def UG {α:Type}(l:List α)(n:Nat):List α:=Nat.rec (motive:=fun _=>List α) l (fun _ ih=>tl ih) n
theorem FY {α:Type}(l:List α):∀n,UG l n=l.drop n
 |0=>rfl
 |n+1=>by
  show tl (UG l n)=_;rw[NL,FY l n,mν]
def LV {α:Type}(l:List α)(n:Nat):List α:=UG (Gt l (Nat.div n 16)) (Nat.mod n 16)
theorem LW {α:Type}(l:List α)(n:Nat):LV l n=l.drop n:=by
 unfold LV;rw[FY,vq,mν];congr 1;exact Nat.div_add_mod n 16
def Vc (d:D):Bool:=
 D.rec (motive_1:=fun _=>Bool) (motive_2:=fun _=>PUnit.{1})
  (fun _=>true) (fun _ _=>false) (fun _ _=>false) (fun _ _=>true) (fun _ _ _=>true) (fun _ _=>true) (fun _ _ _ _=>true) (fun _ _ _=>true) (fun _=>true) (fun _ _ _=>true) (fun _ _ _=>true) false ⟨⟩ (fun _ _ _ _=>⟨⟩) d
theorem SU (d:D):Vc d=cw d:=by cases d<;>rfl
def Mt (xs:List D)(n:Nat):Bool:=
 List.rec (motive:=fun _=>Nat→Bool) (fun n=>Nat.rec (motive:=fun _=>Bool) true (fun _ _=>false) n) (fun d _ ih n=>Nat.rec (motive:=fun _=>Bool) false (fun m _=>Bool.rec (motive:=fun _=>Bool) false (ih m) (Vc d)) n) xs n
theorem Ah:∀(xs:List D) (n:Nat),Mt xs n=(Nat.beq xs.length n&&xs.all cw)
 |[],0=>rfl
 |[],n+1=>rfl
 |d::r,0=>rfl
 |d::r,n+1=>by
  show Bool.rec (motive:=fun _=>Bool) false (Mt r n) (Vc d)=(Nat.beq r.length n&&(cw d&&r.all cw));rw[Ah r n,SU];cases cw d<;>simp
def MF {α:Type}(xs:List α)(n:Nat):Bool:=
 List.rec (motive:=fun _=>Nat→Bool) (fun n=>Nat.rec (motive:=fun _=>Bool) true (fun _ _=>false) n) (fun _ _ ih n=>Nat.rec (motive:=fun _=>Bool) true (fun m _=>ih m) n) xs n
theorem tV {α:Type}:∀(xs:List α) (n:Nat),MF xs n=Nat.ble n xs.length
 |[],0=>rfl
 |[],n+1=>rfl
 |d::r,0=>rfl
 |d::r,n+1=>tV r n
def G8 (xs:List D):List D→List D:=List.rec (motive:=fun _=>List D→List D) (fun cs=>cs) (fun x _ ih cs=>x::ih (tl cs)) xs
theorem Dn:∀(xs cs:List D),G8 xs cs=xs++cs.drop xs.length
 |[],cs=>rfl
 |x::r,cs=>by
  show x::G8 r (tl cs)=_;rw[Dn r,NL,mν];simp[Nat.add_comm]
def Jq (cs:List D)(off:Nat)(xs:List D):List D:=
 List.rec (motive:=fun _=>Nat→List D) (fun _=>xs) (fun c r ih off=>Nat.rec (motive:=fun _=>List D) (G8 xs (c::r)) (fun o _=>c::ih o) off) cs off
theorem A7 (xs:List D):∀(cs:List D) (off:Nat),Jq cs off xs=splice cs off xs
 |[],off=>by simp[Jq,splice]
 |c::r,0=>by
  show G8 xs (c::r)=_;rw[Dn];simp[splice]
 |c::r,o+1=>by
  show c::Jq r o xs=_;rw[A7 xs r o];simp[splice,Nat.add_right_comm]
def M1 (cs:List Da):List D:=List.rec (motive:=fun _=>List D) [] (fun x _ ih=> .p x::ih) cs
theorem tZ:∀cs,M1 cs=cs.map .p
 |[]=>rfl
 |c::r=>by show D.p c::M1 r=_;rw[tZ r];rfl
def pA (d:D)(k:List D→R):R:=
 D.rec (motive_1:=fun _=>R) (motive_2:=fun _=>PUnit.{1})
  (fun x=>Da.rec (motive_1:=fun _=>R) (motive_2:=fun _=>PUnit.{1})
   (fun _=>k [d]) (fun _ _=>k [d]) (fun _=>k [d]) (fun cs _=>k (M1 cs)) (fun _ _ _=>k [d]) (k [d]) (fun _ _=>k [d]) (fun _ _ _ _=>k [d]) (k [d]) (fun _ _ _=>k [d]) (k [d]) (fun _ _ _=>k [d]) (k [d]) (fun _ _ _=>k [d]) (fun _ _=>k [d]) ⟨⟩ (fun _ _ _ _=>⟨⟩) x)
  (fun ds _=>k ds) (fun _ _=>k [d]) (fun _ _=>k [d]) (fun _ _ _=>k [d]) (fun _ _=>k [d]) (fun _ _ _ _=>k [d]) (fun _ _ _=>k [d]) (fun _=>k [d]) (fun _ _ _=>k [d]) (fun _ _ _=>k [d]) (k [d]) ⟨⟩ (fun _ _ _ _=>⟨⟩) d
theorem vo (d:D)(k:List D→R):pA d k=k (bh d):=by
 cases d<;>try rfl
 rename_i x;cases x<;>try rfl
 simp only[pA,tZ,bh]
def Kx (ds:List D)(e:R)(k:List Da→R):R:=
 List.rec (motive:=fun _=>(List Da→R)→R) (fun k=>k [])
  (fun d _ ih k=>eL d e fun x=>ih fun xs=>k (x::xs)) ds k
theorem BY (e:R):∀(ds:List D) (k:List Da→R),Kx ds e k=match fW ds with
  |some xs=>k xs
  |none=>e
 |[],k=>rfl
 |d::r,k=>by
  cases d<;>try rfl
  rename_i x;show Kx r e (fun xs=>k (x::xs))=_;rw[BY e r];simp only[fW];cases fW r<;>rfl
def AG (ds:List D)(k:D→R):R:=Kx ds (k (.agg ds)) fun xs=>k (.p (.agg xs))
theorem yG (ds:List D)(k:D→R):AG ds k=k (wc ds):=by
 simp only[AG,BY,wc];cases fW ds<;>rfl
def Mr (ps:List (Nat×Nat)):List D→List D→(List D→R)→R:=
 List.rec (motive:=fun _=>List D→List D→(List D→R)→R)
  (fun cs ds k=>List.rec (motive:=fun _=>R) (k cs) (fun _ _ _=>none) ds)
  (fun p _ ih cs ds k=>List.rec (motive:=fun _=>R) none (fun d ds _=>pA d fun xs=>oI (Mt xs p.2) (oI (MF cs (Nat.add p.1 p.2)) (ih (Jq cs p.1 xs) ds k) none) none) ds) ps
theorem Cz:∀(ps:List (Nat×Nat)) (cs ds:List D) (k:List D→R),Mr ps cs ds k=caseO (nB cs ps ds) none k
 |[],cs,[],k=>rfl
 |[],cs,d::ds,k=>rfl
 |p::ps,cs,[],k=>rfl
 |(off,n)::ps,cs,d::ds,k=>by
  show pA d (fun xs=>oI (Mt xs n) (oI (MF cs (Nat.add off n)) (Mr ps (Jq cs off xs) ds k) none) none)=_
  simp only[vo,eZ,Ah,tV,A7,Cz ps,nB];have:Nat.add off n=off+n:=rfl;rw[this];cases Nat.beq (bh d).length n<;>cases(bh d).all cw<;>cases Nat.ble (off+n) cs.length<;>rfl
def zO (zs:List D)(ps:List (Nat×Nat))(vs:List D)(k:D→R):R:=Mr ps zs vs fun cs=>AG cs k
def NI {α:Type}(l:List α)(n:Nat)(k:List α→R):R:=
 List.rec (motive:=fun _=>Nat→(List α→R)→R) (fun n k=>Nat.rec (motive:=fun _=>R) (k []) (fun _ _=>none) n) (fun x _ ih n k=>Nat.rec (motive:=fun _=>R) (k []) (fun n _=>ih n fun r=>k (x::r)) n) l n k
theorem DF {α:Type}:∀(l:List α) (n:Nat) (k:List α→R),NI l n k=bif Nat.ble n l.length then k (l.take n)else none
 |[],0,k=>rfl
 |[],n+1,k=>rfl
 |x::r,0,k=>rfl
 |x::r,n+1,k=>by
  show NI r n (fun r=>k (x::r))=_;rw[DF r n];rfl
def FX {α:Type}(l:List α)(off n:Nat)(k:List α→R):R:=oI (MF l off) (NI (UG l off) n k) none
def oR (agg:Bool)(ds:List D)(k:D→R):R:=Bool.rec (motive:=fun _=>R) (List.rec (motive:=fun _=>R) none (fun d r _=>List.rec (motive:=fun _=>R) (k d) (fun _ _ _=>none) r) ds) (AG ds k) agg
theorem j8 (agg:Bool)(ds:List D)(k:D→R):oR agg ds k=caseO (cX agg ds) none k:=by
 cases agg with
 |true=>simp only[oR,yG,cX,cond_true,caseO]
 |false=>
  match ds with
  |[]=>rfl
  |[d]=>rfl
  |_::_::_=>rfl
def GX (n:Nat)(agg:Bool)(d:D)(hp:List Ob)(e:R)(k:D→R):R:=
 D.rec (motive_1:=fun _=>R) (motive_2:=fun _=>PUnit.{1})
  (fun _=>e) (fun _ _=>none) (fun _ _=>none)
  (fun id off=>jm (Bi hp id) none fun cs=>FX cs off n fun ds=>oR agg ds k)
  (fun _ _ _=>e)
  (fun x off=>FX (cells x) off n fun xs=>oR agg (M1 xs) k)
  (fun _ _ _ _=>none) (fun _ _ _=>none) (fun _=>none) (fun _ _ _=>none) (fun _ _ _=>none) none ⟨⟩ (fun _ _ _ _=>⟨⟩) d
def Mu (off n:Nat)(agg:Bool)(d:D)(k:D→R):R:=
 D.rec (motive_1:=fun _=>R) (motive_2:=fun _=>PUnit.{1})
  (fun x=>Da.rec (motive_1:=fun _=>R) (motive_2:=fun _=>PUnit.{1})
   (fun _=>none) (fun _ _=>none) (fun _=>none) (fun cs _=>FX cs off n fun xs=>oR agg (M1 xs) k) (fun _ _ _=>none) none (fun _ _=>none) (fun _ _ _ _=>none) none (fun _ _ _=>none) none (fun _ _ _=>none) none (fun _ _ _=>none) (fun _ _=>none) ⟨⟩ (fun _ _ _ _=>⟨⟩) x)
  (fun ds _=>FX ds off n fun ds=>oR agg ds k) (fun _ _=>none) (fun _ _=>none) (fun _ _ _=>none) (fun _ _=>none) (fun _ _ _ _=>none) (fun _ _ _=>none) (fun _=>none) (fun _ _ _=>none) (fun _ _ _=>none) none ⟨⟩ (fun _ _ _ _=>⟨⟩) d
def zI (base kk:Nat)(zs:List D)(hp:List Ob)(k:KV):R:=
 forceN (Nat.add base kk) fun id=>Uq (Bi hp id) (xP hp id (.box zs) fun hp=>k (.box id 0) hp)
def OM (base:Nat)(n kk:Nat)(d:D)(hp:List Ob)(k:KV):R:=
 forceN (Nat.add base kk) fun id=>Uq (Bi hp id) (forceDs (bh d) fun cs=>oI ((bif Nat.beq n 1000003 then Nat.beq cs.length 3 else Nat.beq cs.length n&&!b3 cs)&&cs.all cw) (xP hp id (.box cs) fun hp=>k (.box id 0) hp) none)
def FU (n:Nat)(a d:D)(hp:List Ob)(e:R)(k:KV):R:=
 D.rec (motive_1:=fun _=>R) (motive_2:=fun _=>PUnit.{1})
  (fun _=>none) (fun _ _=>none) (fun _ _=>none)
  (fun id off=>jm (Bi hp id) none fun cs=>pA d fun xs=>oI (Mt xs n) (oI (MF cs (Nat.add off n)) (forceDs (Jq cs off xs) fun cs1=>oI (b3 cs1&&!b3 cs) none (xP hp id (.box cs1) fun hp=>k .junk hp)) none) none)
  (fun _ _ _=>e) (fun _ _=>none)
  (fun _ _ _ _=>none) (fun _ _ _=>none) (fun _=>none) (fun _ _ _=>none) (fun _ _ _=>none) none ⟨⟩ (fun _ _ _ _=>⟨⟩) a
section eqs
variable {call:aC} {base kk:Nat} {hp:List Ob} {k:KV}
theorem Ic (zs:List D):cN call base (.alloc zs) kk [] hp k=zI base kk zs hp k:=by
 simp only[zI,ir,F3,qo,jN];rfl
theorem ON (n:Nat)(d:D):cN call base (.box n) kk [d] hp k=OM base n kk d hp k:=by
 simp only[OM,ir,F3,qo,jN,eY,eZ];show(bif bV (aN hp (base+kk))then match Kn n base kk [d]with
  |none=>none
  |some (v,ups,new)=>k v (grow (aj hp ups) new)else none)=_
 simp only[Kn];have:aN hp (base+kk)=hp.getD (Nat.add base kk) .dead:=rfl;rw[this];cases bV (hp.getD (Nat.add base kk) .dead)
 ·rfl
 ·simp only[cond_true];cases((bif Nat.beq n 1000003 then Nat.beq (bh d).length 3 else Nat.beq (bh d).length n&&!b3 (bh d))&&(bh d).all cw)<;>rfl
theorem Jw (n:Nat)(a d:D):cN call base (.store n) kk [a,d] hp k=FU n a d hp (cN call base (.store n) kk [a,d] hp k) k:=by
 cases a<;>try rfl
 rename_i id off;simp only[FU,qo,jN,eY,eZ,vo,Ah,tV,A7];have hn:bg (.store n) [.box id off,d] hp=id::(dids d++[]):=rfl;have hl:dW ((id::(dids d++[])).zip ((id::(dids d++[])).map (aN hp))) id=aN hp id:=by
  simp only[List.map_cons,List.zip_cons_cons,dW,show Nat.beq id id=true from Nat.beq_refl id,cond_true]
 simp only[cN,cb,Bool.not_false,Bool.true_or,cond_true,kq,lb,hn,hl];have:aN hp id=hp.getD id .dead:=rfl;rw[this];cases hp.getD id .dead<;>try rfl
 rename_i cs;have h2:Nat.add off n=off+n:=rfl;simp only[jm,h2];cases Nat.beq (bh d).length n<;>cases(bh d).all cw<;>cases Nat.ble (off+n) cs.length<;>first|rfl|(simp only[Bool.and_self,cond_true,Bool.true_and,Bool.and_true];cases(b3 (splice cs off (bh d))&&!b3 cs)<;>rfl)
theorem qt {α:Type}(l:List α)(off n:Nat)(f:List α→R):FX l off n f=caseO (sub l off n) none f:=by
 unfold FX sub;rw[eZ,tV,FY,DF,lυ];cases h:Nat.ble (off+n) l.length
 ·cases h1:Nat.ble off l.length
  ·rfl
  ·have:Nat.ble n (l.length - off)=false:=by
    rw[←Bool.not_eq_true,Nat.ble_eq]at h ⊢
    have:=Nat.le_of_ble_eq_true h1;omega
   rw[this];rfl
 ·have:=Nat.le_of_ble_eq_true h;rw[Nat.ble_eq.mpr (by omega:off≤l.length),Nat.ble_eq.mpr (by omega:n≤l.length - off)];rfl
theorem MZ (n:Nat)(agg:Bool)(x:D):cN call base (.load n agg) kk [x] hp k=GX n agg x hp (gY (fh n agg [x] ((dids x).map (aN hp))) fun v=>k v hp) fun v=>k v hp:=by
 rw[bD rfl];cases x<;>try rfl
 ·rename_i id off;show gY (fh n agg [.box id off] [aN hp id]) (fun v=>k v hp)=_;simp only[GX,fh,jN,qt,j8];have:aN hp id=hp.getD id .dead:=rfl;rw[this];cases hp.getD id .dead<;>try rfl
  rename_i cs;simp only[jm];cases sub cs off n with
  |none=>rfl
  |some ds=>
   simp only[caseO];cases cX agg ds<;>rfl
 ·rename_i x off;show gY (fh n agg [.ip x off] []) (fun v=>k v hp)=_;simp only[GX,fh,qt,j8,tZ];cases sub (cells x) off n with
  |none=>rfl
  |some ds=>
   simp only[caseO];cases cX agg (ds.map .p)<;>rfl
theorem QB {α β:Type}(f:α→β)(l:List α)(off n:Nat):sub (l.map f) off n=(sub l off n).map (List.map f):=by
 unfold sub;rw[lμ];cases Nat.ble (off+n) l.length
 ·rfl
 ·simp[List.map_drop,List.map_take]
theorem PL (off n:Nat)(agg:Bool)(x:D):cN call base (.fld off n agg) kk [x] hp k=Mu off n agg x fun v=>k v hp:=by
 rw[bD rfl];show gY (BR off n agg [x]) (fun v=>k v hp)=_;cases x<;>try rfl
 ·rename_i x;cases x<;>try rfl
  rename_i cs;simp only[BR,Mu,qt,j8,tZ,QB];cases sub cs off n with
  |none=>rfl
  |some ds=>
   simp only[Option.map_some,caseO];cases cX agg (ds.map .p)<;>rfl
 ·rename_i cs;simp only[BR,Mu,qt,j8];cases sub cs off n with
  |none=>rfl
  |some ds=>
   simp only[caseO];cases cX agg ds<;>rfl
theorem Il (zs:List D)(ps:List (Nat×Nat))(vs:List D):cN call base (.build zs ps) kk vs hp k=zO zs ps vs fun v=>k v hp:=by
 rw[bD rfl];show gY (oo zs ps vs) (fun v=>k v hp)=_;simp only[oo,zO,Cz,yG];cases nB zs ps vs<;>rfl
end eqs
def Q8 (n:Nat)(agg:Bool)(x:D)(hp:List Ob)(k:D→R):R:=GX n agg x hp (gY (fh n agg [x] ((dids x).map (aN hp))) k) k
def A8 (call:aC)(base n kk:Nat)(a d:D)(hp:List Ob)(k:KV):R:=
 FU n a d hp (cN call base (.store n) kk [a,d] hp fun v hp=>tS hp fun hp=>k v hp) k
def Mx (call:aC)(base:Nat)(o:O)(kk:Nat)(vs:List D)(hp:List Ob)(k:KV):R:=
 cN call base o kk vs hp fun v hp=>gf v fun v=>tS hp fun hp=>k v hp
theorem An (call:aC)(base:Nat)(o:O)(kk:Nat)(vs:List D)(hp:List Ob)(k:KV):Mx call base o kk vs hp k=cN call base o kk vs hp k:=by
 simp only[Mx,jZ,oE]
theorem Jt (call:aC)(base n kk:Nat)(a d:D)(hp:List Ob)(k:KV):A8 call base n kk a d hp k=cN call base (.store n) kk [a,d] hp k:=by
 simp only[A8,oE];exact(Jw n a d).symm
def A5 (lo hi:Bool)(x:D)(xs:List D)(k:D→R):R:=
 eL x none fun x=>lg x none fun s=>caseO (bC lo hi false (CU s) xs) none fun b=>Hm (LV s b.1) (Nat.sub b.2.1 b.1) fun r=>k (.p (.str r))
theorem Jp {call:aC}{base kk:Nat}{hp:List Ob}{k:KV}(lo hi:Bool)(x:D)(xs:List D):cN call base (.slStr lo hi) kk (x::xs) hp k=A5 lo hi x xs fun v=>k v hp:=by
 rw[bD rfl];show gY (la lo hi (x::xs)) (fun v=>k v hp)=_;cases x<;>try rfl
 rename_i x;cases x<;>try rfl
 rename_i s;simp only[la,A5,eL,lg,DE,LW,jr];cases bC lo hi false s.length xs with
 |none=>rfl
 |some b=>rfl
def tL (es:List Da)(n:Nat)(ys:List Da)(e:R)(k:List Da→R):R:=
 List.rec (motive:=fun _=>Nat→(List Da→R)→R) (fun n k=>Nat.rec (motive:=fun _=>R) (k ys) (fun _ _=>e) n) (fun x _ ih n k=>Nat.rec (motive:=fun _=>R) (k ys) (fun m _=>ih m fun r=>k (x::r)) n) es n k
theorem uW (ys:List Da)(e:R):∀(es:List Da) (n:Nat) (k:List Da→R),tL es n ys e k=bif Nat.ble n es.length then k (es.take n++ys)else e
 |[],0,k=>rfl
 |[],n+1,k=>rfl
 |x::r,0,k=>rfl
 |x::r,n+1,k=>by
  show tL r n ys e (fun r=>k (x::r))=_;rw[uW ys e r];rfl
def Gp (o:Ob)(e:R)(k:List Da→R):R:=
 Ob.rec (motive:=fun _=>R) (fun _=>e) (fun es=>k es) (fun _=>e) (fun _ _=>e) (fun _ _=>e) e e (fun _ _=>e) (fun _=>e) o
def yK (esz:Nat)(b:D)(e:R)(k:List Da→R):R:=
 D.rec (motive_1:=fun _=>R) (motive_2:=fun _=>PUnit.{1})
  (fun x=>ga x e fun z es=>oI (Nat.beq z esz) (k es) e) (fun _ _=>e) (fun _ _=>e) (fun _ _=>e) (fun _ _ _=>e) (fun _ _=>e) (fun _ _ _ _=>e) (fun _ z es=>oI (Nat.beq z esz) (k es) e) (fun _=>e) (fun _ _ _=>e) (fun _ _ _=>e) e ⟨⟩ (fun _ _ _ _=>⟨⟩) b
theorem Uu (esz:Nat)(b:D)(os:List (Nat×Ob))(e:R)(k:List Da→R):yK esz b e k=e∨∃ys,elems esz os b=some ys∧yK esz b e k=k ys:=by
 cases b<;>try exact .inl rfl
 ·rename_i x;cases x<;>try exact .inl rfl
  all_goals
   rename_i z es;simp only[yK,ga,eZ,elems,mW,w8];cases Nat.beq z esz
   ·exact .inl rfl
   ·exact .inr ⟨es,rfl,rfl⟩
 ·rename_i g z es;simp only[yK,eZ,elems,mW,w8];cases Nat.beq z esz
  ·exact .inl rfl
  ·exact .inr ⟨es,rfl,rfl⟩
def RJ (esz bytes base kk:Nat)(a b:D)(hp:List Ob)(e:R)(k:KV):R:=
 D.rec (motive_1:=fun _=>R) (motive_2:=fun _=>PUnit.{1})
  (fun _=>e) (fun _ _=>e) (fun _ _=>e) (fun _ _=>e) (fun _ _ _=>e) (fun _ _=>e)
  (fun id lo len z=>Nat.rec (motive:=fun _=>R) (oI (Nat.beq z esz) (Gp (Bi hp id) e fun es=>yK esz b e fun ys=>tL es len ys e fun zs=>
   forceN (Nat.add len (CU ys)) fun l=>oI (Nat.ble (Nat.mul (Nat.add (Nat.mul 2 l) 192) bytes) 281474976710656) (oI (Nat.ble (Nat.add (Nat.mul 2 l) 192) 9223372036854775807)
    (forceN (Nat.add base kk) fun i=>Uq (Bi hp i) (xP hp id .dead fun hp=>xP hp i (.arr zs) fun hp=>k (.arr i 0 l esz) hp)) none) none) e) (fun _ _=>e) lo)
  (fun _ _ _=>e) (fun _=>e) (fun _ _ _=>e) (fun _ _ _=>e) e ⟨⟩ (fun _ _ _ _=>⟨⟩) a
theorem OD {call:aC}{base kk:Nat}{hp:List Ob}{k:KV}(esz bytes:Nat)(a b:D):cN call base (.app esz bytes) kk [a,b] hp k=RJ esz bytes base kk a b hp (cN call base (.app esz bytes) kk [a,b] hp k) k:=by
 cases a<;>try rfl
 rename_i id lo len z;cases lo with
 |succ lo=>rfl
 |zero=>
  simp only[RJ,eZ];cases hz:Nat.beq z esz
  ·rfl
  ·have ho:aN hp id=Bi hp id:=(jN hp id).symm;cases hob:Bi hp id<;>try rfl
   rename_i es;simp only[cond_true,Gp];have hn:bg (.app esz bytes) [.arr id 0 len z,b] hp=id::(dids b++[]):=rfl;have hl:dW ((id::(dids b++[])).zip ((id::(dids b++[])).map (aN hp))) id= .arr es:=by
    simp only[List.map_cons,List.zip_cons_cons,dW,show Nat.beq id id=true from Nat.beq_refl id,cond_true,ho,hob]
   rcases Uu esz b ((id::(dids b++[])).zip ((id::(dids b++[])).map (aN hp))) (cN call base (.app esz bytes) kk [.arr id 0 len z,b] hp k) (fun ys=>tL es len ys (cN call base (.app esz bytes) kk [.arr id 0 len z,b] hp k) fun zs=>
   forceN (Nat.add len (CU ys)) fun l=>bif Nat.ble (Nat.mul (Nat.add (Nat.mul 2 l) 192) bytes) 281474976710656 then bif Nat.ble (Nat.add (Nat.mul 2 l) 192) 9223372036854775807 then
    (forceN (Nat.add base kk) fun i=>Uq (Bi hp i) (xP hp id .dead fun hp=>xP hp i (.arr zs) fun hp=>k (.arr i 0 l esz) hp))else none else none)with hy|⟨ys,hy1,hy2⟩
   ·exact hy.symm
   ·rw[hy2,uW];cases hle:Nat.ble len es.length
    ·rfl
    ·have hle':=Nat.le_of_ble_eq_true hle;have hlen:(es.take len).length=len:=by simp[hle']
     simp only[cond_true,ir,qo,F3,jN,jr];simp only[cN,cb,Bool.not_true,Bool.false_or,kq,om,hn,jX,hl,hz,cond_true,List.drop_zero,hy1,hlen,List.isEmpty_cons,Bool.false_and,cond_false];have e1:aN hp (base+kk)=hp.getD (Nat.add base kk) .dead:=rfl;rw[e1];have e2:(2*(len+ys.length)+192)*bytes=Nat.mul (Nat.add (Nat.mul 2 (Nat.add len ys.length)) 192) bytes:=rfl;have e3:2*(len+ys.length)+192=Nat.add (Nat.mul 2 (Nat.add len ys.length)) 192:=rfl;rw[e2,e3];cases bV (hp.getD (Nat.add base kk) .dead)<;>cases Nat.ble (Nat.mul (Nat.add (Nat.mul 2 (Nat.add len ys.length)) 192) bytes) 281474976710656<;>cases Nat.ble (Nat.add (Nat.mul 2 (Nat.add len ys.length)) 192) 9223372036854775807<;>rfl
def Oz (call:aC)(base esz bytes kk:Nat)(a b:D)(hp:List Ob)(k:KV):R:=
 RJ esz bytes base kk a b hp (Mx call base (.app esz bytes) kk [a,b] hp k) k
theorem OA (call:aC)(base esz bytes kk:Nat)(a b:D)(hp:List Ob)(k:KV):Oz call base esz bytes kk a b hp k=cN call base (.app esz bytes) kk [a,b] hp k:=by
 unfold Oz;rw[An];exact(OD esz bytes a b).symm
def KS (esz:Nat)(d:D)(e:R)(k:D→R):R:=eL d e fun x=>oI (Nat.beq (CU (cells x)) esz) (k (.sl .exact esz [x])) none
theorem KT {call:aC}{base kk:Nat}{hp:List Ob}{k:KV}(esz:Nat)(z:Da)(d:D):cN call base (.bsl esz z 1 [0]) kk [d] hp k=KS esz d (cN call base (.bsl esz z 1 [0]) kk [d] hp k) fun v=>k v hp:=by
 cases d<;>try rfl
 rename_i x;simp only[KS,eL,eZ,jr];have:cN call base (.bsl esz z 1 [0]) kk [.p x] hp k=match H8 esz z 1 [0] [.p x] [] []with
  |none=>none
  |some (v,ups,new)=>k v (grow (aj hp ups) new):=rfl
 rw[this];simp only[H8,pur.purL,pur,List.all_cons,List.all_nil,Bool.and_true];cases Nat.beq (cells x).length esz
 ·rfl
 ·rfl
def KQ (call:aC)(base esz:Nat)(z:Da)(kk:Nat)(d:D)(hp:List Ob)(k:KV):R:=KS esz d (Mx call base (.bsl esz z 1 [0]) kk [d] hp k) fun v=>k v hp
theorem KR (call:aC)(base esz:Nat)(z:Da)(kk:Nat)(d:D)(hp:List Ob)(k:KV):KQ call base esz z kk d hp k=cN call base (.bsl esz z 1 [0]) kk [d] hp k:=by
 unfold KQ;rw[An];exact(KT esz z d).symm
def mB (d:D)(k:D→R):R:=
 D.rec (motive_1:=fun _=>R) (motive_2:=fun _=>PUnit.{1})
  (fun x=>Da.rec (motive_1:=fun _=>R) (motive_2:=fun _=>PUnit.{1})
   (fun b=>Bool.rec (motive:=fun _=>R) (k (.p (.bool false))) (k (.p (.bool true))) b) (fun i n=>Ai n fun n=>k (.p (.int i n))) (fun s=>forceNs s fun s=>k (.p (.str s))) (fun cs _=>pL cs fun cs=>k (.p (.agg cs))) (fun z es _=>pL es fun es=>k (.p (.slice z es))) (k d) (fun _ _=>k d) (fun _ _ _ _=>k d) (k d) (fun _ _ _=>k d) (k d) (fun _ _ _=>k d) (k d) (fun _ _ _=>k d) (fun _ _=>k d) ⟨⟩ (fun _ _ _ _=>⟨⟩) x)
  (fun cs _=>k (.agg cs)) (fun ds _=>forceDs ds fun ds=>k (.tup ds)) (fun _ _=>gf d k) (fun _ _ _=>gf d k) (fun _ _=>k d)
  (fun _ _ _ _=>gf d k) (fun _ _ _=>k d) (fun _=>gf d k) (fun _ _ _=>k d) (fun _ _ _=>k d) (k d) ⟨⟩ (fun _ _ _ _=>⟨⟩) d
theorem IR (d:D)(k:D→R):mB d k=k d:=by
 cases d<;>(try rfl)<;>(try (simp only[mB,jZ];done))
 ·rename_i x;cases x<;>try rfl
  ·rename_i b;cases b<;>rfl
  ·simp only[mB,yn]
  ·simp only[mB,iQ]
  ·simp only[mB,lk]
  ·simp only[mB,lk]
 ·simp only[mB,eY]
end
end Go.Ab
end
section
namespace Go.Ab
open Go
noncomputable section
def mO (vs:List D)(e:R)(k:List D→R):R:=
 List.rec (motive:=fun _=>(List D→R)→R) (fun k=>k [])
  (fun d _ ih k=>D.rec (motive_1:=fun _=>R) (motive_2:=fun _=>PUnit.{1})
   (fun x=>ih fun xs=>k (.p x::xs)) (fun _ _=>e) (fun _ _=>e) (fun _ _=>e) (fun _ _ _=>e) (fun _ _=>e) (fun _ _ _ _=>e) (fun _ _ _=>e) (fun _=>e) (fun _ _ _=>e) (fun _ _ _=>e) e ⟨⟩ (fun _ _ _ _=>⟨⟩) d) vs k
def He (r:D)(e:R)(k:D→R):R:=
 D.rec (motive_1:=fun _=>R) (motive_2:=fun _=>PUnit.{1})
  (fun x=>k (.p x)) (fun _ _=>e) (fun ds _=>mO ds e fun ds=>k (.tup ds)) (fun _ _=>e) (fun _ _ _=>e) (fun _ _=>e) (fun _ _ _ _=>e) (fun _ _ _=>e) (fun _=>e) (fun _ _ _=>e) (fun _ _ _=>e) e ⟨⟩ (fun _ _ _ _=>⟨⟩) r
def DN:D→Bool
 | .p _=>true
 |_=>false
theorem gS (e:R):∀(vs:List D) (k:List D→R),mO vs e k=bif vs.all DN then k vs else e
 |[],k=>rfl
 |d::r,k=>by
  cases d<;>try rfl
  rename_i x;show mO r e (fun xs=>k (.p x::xs))=_;rw[gS e r];rfl
def wD:D→Bool
 | .p _=>true
 | .tup ds=>ds.all DN
 |_=>false
theorem wE (r:D)(e:R)(k:D→R):He r e k=bif wD r then k r else e:=by
 cases r<;>try rfl
 exact gS _ _ _
theorem m4:∀{vs:List D},vs.all DN=true→dids.didsL vs=[]
 |[],_=>rfl
 |d::r,h=>by
  simp only[List.all_cons,lβ]at h;cases d<;>simp only[DN,Bool.false_eq_true,false_and]at h;simp only[dids.didsL,dids,m4 h.2,lχ]
theorem rF (σ:Nat→Option Nat):∀{vs:List D},vs.all DN=true→mapD.mapDL σ vs=vs
 |[],_=>rfl
 |d::r,h=>by
  simp only[List.all_cons,lβ]at h;cases d<;>simp only[DN,Bool.false_eq_true,false_and]at h;simp only[mapD.mapDL,mapD,rF σ h.2]
theorem rG (σ:Nat→Option Nat){d:D}(h:wD d=true):mapD σ d=d:=by
 cases d<;>simp only[wD,Bool.false_eq_true]at h
 ·rfl
 ·simp only[mapD,rF σ h]
theorem rH:∀{vs:List D},vs.all DN=true→vs.map norm=vs
 |[],_=>rfl
 |d::r,h=>by
  simp only[List.all_cons,lβ]at h;cases d<;>simp only[DN,Bool.false_eq_true,false_and]at h;simp only[List.map_cons,norm,rH h.2]
def Lx (call:aC)(f:Nat)(args:List D)(e:R)(k:D→R):R:=
 caseO (call f args []) none fun ro=>Prod.rec (motive:=fun _=>R) (fun r out=>List.rec (motive:=fun _=>R) (He r e k) (fun _ _ _=>e) out) ro
def yc (call:aC)(f:Nat)(raw:Bool)(vs:List D)(hp:List Ob)(e:R)(k:D→R):R:=
 mO vs e fun vs=>Lx call f vs e k
theorem sk {call:aC}{f:Nat}{vs:List D}{len:Nat}(h:vs.all DN=true):dQ call f vs [] [] len=match call f vs []with
  |none=>none
  |some (r,out)=>some (mapD (back 0 len [] out.length) r,[],out.map (bB (back 0 len [] out.length))):=by
 unfold dQ;rw[rF _ h];show(match call f vs []with|none=>none|some (r,out)=>_)=_;cases call f vs []with
 |none=>rfl
 |some p=>obtain⟨r,out⟩:=p;simp[Nat.ble]
abbrev KF:=D→List Ob→df→R
section eqs
variable {call:aC} {base kk:Nat} {hp:List Ob} {k:KV}
theorem m3 (hp:List Ob)(n:Nat)(acc:List Nat):close hp n [] acc=acc:=by cases n<;>rfl
theorem Ir {f:Nat}{raw:Bool}{vs:List D}(h:vs.all DN=true):cN call base (.call f raw) kk vs hp k=match call f vs []with
  |none=>none
  |some (r,out)=>k (mapD (back 0 hp.length [] out.length) r) (grow hp (out.map (bB (back 0 hp.length [] out.length)))):=by
 have hn:bg (.call f raw) vs hp=[]:=by simp only[bg,m4 h,m3]
 have ha:(bif raw then vs else vs.map norm)=vs:=by cases raw<;>simp[rH h]
 simp only[cN,cb,Bool.not_false,Bool.true_or,cond_true,hn,List.map_nil,kq,ha,sk h];cases call f vs []with
 |none=>rfl
 |some p=>rfl
theorem Ly (f:Nat)(raw:Bool)(vs:List D):cN call base (.call f raw) kk vs hp k=yc call f raw vs hp (cN call base (.call f raw) kk vs hp k) fun v=>k v hp:=by
 unfold yc;rw[gS];cases h:vs.all DN
 ·rfl
 ·rw[cond_true,Ir h];unfold Lx;cases hc:call f vs []with
  |none=>rfl
  |some p=>
   obtain⟨r,out⟩:=p;cases out with
   |cons o out=>rfl
   |nil=>
    simp only[caseO,wE];cases hr:wD r
    ·rfl
    ·simp only[cond_true,List.length_nil,List.map_nil];rw[rG _ hr];rfl
end eqs
def ye (call:aC)(f:Nat)(raw:Bool)(vs:List D)(hp:List Ob)(k:KF):R:=
 forceNs (eh hp aW (dA vs []) []) fun ids=>
  forceDs (eI (hC ids) (Bool.rec (motive:=fun _=>List D) (vs.map norm) vs raw)) fun args=>forceHb (lx ids hp) fun hp'=>
   caseO (call f args hp') none fun ro=>Prod.rec (motive:=fun _=>R) (fun r out=>oI (Nat.ble ids.length out.length)
    (gf (fS (back ids.length hp.length ids out.length) r) fun v=>forceHb (lC (back ids.length hp.length ids out.length) out) fun out'=>
     forceHb (grow (aj hp (ids.zip out')) (out'.drop ids.length)) fun hp2=>k v hp2 ⟨ids,jy ids hp (ids.zip out'),!(out'.drop ids.length).isEmpty,hp.length⟩) none) ro
theorem B7 {call:aC}{base kk:Nat}{hp:List Ob}{k:KF}(f:Nat)(raw:Bool)(vs:List D):ye call f raw vs hp k=bif !(cb (.call f raw))||bV (aN hp (base+kk))then
  match kq call base (.call f raw) kk vs (bg (.call f raw) vs hp) ((bg (.call f raw) vs hp).map (aN hp)) hp.length with
  |none=>none
  |some (v,ups,new)=>k v (grow (aj hp ups) new) ⟨bif cb (.call f raw)then(base+kk)::bg (.call f raw) vs hp else bg (.call f raw) vs hp,jy (bg (.call f raw) vs hp) hp ups,!new.isEmpty,hp.length⟩
 else none:=by
 have hn:bg (.call f raw) vs hp=close hp aW (dids.didsL vs) []:=rfl;simp only[ye,iQ,eY,iP,jZ,cz,cT,lχ,gm,ib,iZ,eN,j3,eZ,cb,Bool.not_false,Bool.true_or,cond_true,cond_false,kq,dQ,hn];have e:(List.map (bB (idx (close hp aW (dids.didsL vs) []))) (List.map (aN hp) (close hp aW (dids.didsL vs) [])))=bt (close hp aW (dids.didsL vs) []) hp:=by
  simp only[bt,List.map_map];rfl
 have e2:(bif raw then vs else List.map norm vs)=Bool.rec (motive:=fun _=>List D) (vs.map norm) vs raw:=by cases raw<;>rfl
 rw[e,e2];cases call f (mapD.mapDL (idx (close hp aW (dids.didsL vs) [])) (Bool.rec (motive:=fun _=>List D) (vs.map norm) vs raw)) (bt (close hp aW (dids.didsL vs) []) hp)with
 |none=>rfl
 |some p=>
  obtain⟨r,out⟩:=p;simp only[caseO];cases Nat.ble (close hp aW (dids.didsL vs) []).length out.length<;>rfl
def Gm (call:aC)(f:Nat)(raw:Bool)(vs:List D)(hp:List Ob)(k:KV):R:=
 yc call f raw vs hp (ye call f raw vs hp fun v hp _=>k v hp) fun v=>k v hp
theorem Lu {call:aC}{base kk:Nat}{hp:List Ob}{k:KV}(f:Nat)(raw:Bool)(vs:List D):cN call base (.call f raw) kk vs hp k=Gm call f raw vs hp k:=by
 rw[Ly];unfold Gm;rw[B7 (base:=base) (kk:=kk)];rfl
def Vu (esz:Nat)(x i:D)(k:D→R):R:=U5 esz x i (gY (Ge esz [x,i]) k) k
def Vs (off:Nat)(x:D)(k:D→R):R:=Vt off x (gY (RC off [x]) k) k
def Nb (x:D)(k:D→R):R:=Nc x (gY (oq [x]) k) k
def T0 (kd:Nat)(x:D)(hp:List Ob)(k:D→R):R:=SH kd x (gY (H9 kd [x] (bg (.len kd) [x] hp) ((bg (.len kd) [x] hp).map (aN hp))) k) k
def MW (x:D)(hp:List Ob)(k:D→R):R:=AE x hp (gY (fh 1 false [x] ((dids x).map (aN hp))) k) k
def Q6 (o:O)(vs:List D)(hp:List Ob):df:=⟨bg o vs hp,[],false,hp.length⟩
def TR (hp:List Ob):df:=⟨[],[],false,hp.length⟩
def I1 (call:aC)(base:Nat)(o:O)(kk:Nat)(vs:List D)(hp:List Ob)(k:KV):R:=
 match o,vs with
 | .mv,[a]=>k a hp
 | .pick,[c,a,b]=>Nq c a b fun v=>k v hp
 | .bin op,[x,y]=>OF op x y fun v=>k v hp
 | .un .not,[x]=>SR x fun v=>k v hp
 | .ia esz,[x,i]=>Vu esz x i fun v=>k v hp
 | .ix,[x,i]=>UA x i fun v=>k v hp
 | .fa off,[x]=>Vs off x fun v=>k v hp
 | .nilck,[x]=>Nb x fun v=>k v hp
 | .ext i,[x]=>PH i x fun v=>k v hp
 | .len kd,[x]=>T0 kd x hp fun v=>k v hp
 | .load 1 false,[x]=>MW x hp fun v=>k v hp
 | .call f raw,vs=>Gm call f raw vs hp k
 | .alloc zs,[]=>zI base kk zs hp k
 | .box n,[d]=>OM base n kk d hp k
 | .store n,[a,d]=>A8 call base n kk a d hp k
 | .slStr lo hi,x::xs=>A5 lo hi x xs fun v=>k v hp
 | .load n agg,[x]=>Q8 n agg x hp fun v=>k v hp
 | .fld off n agg,[x]=>Mu off n agg x fun v=>k v hp
 | .build zs ps,vs=>zO zs ps vs fun v=>k v hp
 | .app esz bytes,[a,b]=>Oz call base esz bytes kk a b hp k
 | .bsl esz z 1 [0],[d]=>KQ call base esz z kk d hp k
 |o,vs=>match kf o with
  |true=>cN call base o kk vs hp k
  |false=>Mx call base o kk vs hp k
theorem MJ (call:aC)(base:Nat)(o:O)(kk:Nat)(vs:List D)(hp:List Ob)(k:KV):I1 call base o kk vs hp k=cN call base o kk vs hp k:=by
 unfold I1;split
 ·rfl
 ·exact(Nt _ _ _).symm
 ·exact(OJ _ _ _).symm
 ·exact(Qi _).symm
 ·exact(Sz _ _ _).symm
 ·exact(SE _ _).symm
 ·exact(Sr _ _).symm
 ·exact(I9 _).symm
 ·exact(PI _ _).symm
 ·exact(P8 _ _).symm
 ·exact(I6 _).symm
 ·exact(Lu _ _ _).symm
 ·exact(Ic _).symm
 ·exact(ON _ _).symm
 ·exact Jt _ _ _ _ _ _ _ _
 ·exact(Jp _ _ _ _).symm
 ·exact(MZ _ _ _).symm
 ·exact(PL _ _ _ _).symm
 ·exact(Il _ _ _).symm
 ·exact OA _ _ _ _ _ _ _ _ _
 ·exact KR _ _ _ _ _ _ _ _
 ·split
  ·rfl
  ·exact An _ _ _ _ _ _ _
def Am (call:aC)(base:Nat)(o:O)(kk:Nat)(vs:List D)(hp:List Ob)(k:KF):R:=
 bif !(cb o)||bV (aN hp (base+kk))then
  match kq call base o kk vs (bg o vs hp) ((bg o vs hp).map (aN hp)) hp.length with
  |none=>none
  |some (v,ups,new)=>k v (grow (aj hp ups) new) ⟨bif cb o then(base+kk)::bg o vs hp else bg o vs hp,jy (bg o vs hp) hp ups,!new.isEmpty,hp.length⟩
 else none
def B5 (call:aC)(f:Nat)(raw:Bool)(vs:List D)(hp:List Ob)(k:KF):R:=
 yc call f raw vs hp (ye call f raw vs hp k) fun v=>k v hp (TR hp)
theorem Lt {call:aC}{base kk:Nat}{hp:List Ob}{k:KF}(f:Nat)(raw:Bool)(vs:List D):Am call base (.call f raw) kk vs hp k=B5 call f raw vs hp k:=by
 unfold B5 yc;rw[gS,B7 (base:=base) (kk:=kk)];cases h:vs.all DN
 ·rfl
 ·have hn:bg (.call f raw) vs hp=[]:=by simp only[bg,m4 h,m3]
  have ha:(bif raw then vs else vs.map norm)=vs:=by cases raw<;>simp[rH h]
  rw[cond_true];simp only[Am,cb,Bool.not_false,Bool.true_or,cond_true,cond_false,hn,List.map_nil,kq,ha,sk h];unfold Lx;cases hc:call f vs []with
  |none=>rfl
  |some p=>
   obtain⟨r,out⟩:=p;cases out with
   |cons o out=>rfl
   |nil=>
    simp only[caseO,wE];cases hr:wD r
    ·rfl
    ·simp only[cond_true,List.length_nil,List.map_nil];rw[rG _ hr];rfl
def th (call:aC)(base:Nat)(o:O)(kk:Nat)(vs:List D)(hp:List Ob)(k:KF):R:=
 match o with
 | .call f raw=>B5 call f raw vs hp k
 |o=>match kf o with
  |true=>I1 call base o kk vs hp fun v hp'=>k v hp' (Q6 o vs hp)
  |false=>Am call base o kk vs hp k
theorem P1 (call:aC)(base:Nat)(o:O)(kk:Nat)(vs:List D)(hp:List Ob)(k:KF):th call base o kk vs hp k=Am call base o kk vs hp k:=by
 unfold th;split
 ·exact(Lt _ _ _).symm
 ·split
  ·rename_i hs;rw[MJ,bD hs];have hq:=sK (call:=call) (base:=base) (kk:=kk) (vs:=vs) (ids:=bg o vs hp) (obs:=(bg o vs hp).map (aN hp)) (len:=hp.length) hs;simp only[Am,sJ hs,Bool.not_false,Bool.true_or,cond_true,cond_false];cases ha:kq call base o kk vs (bg o vs hp) ((bg o vs hp).map (aN hp)) hp.length with
   |none=>rfl
   |some e=>
    obtain⟨v,ups,new⟩:=e;have:=hq _ ha;simp only[lι]at this;obtain⟨rfl,rfl⟩:=this;rfl
  ·rfl
def As (d:D)(want:Bool)(t e:R):R:=
 D.rec (motive_1:=fun _=>R) (motive_2:=fun _=>PUnit.{1})
  (fun x=>pq x none (Bool.rec (motive:=fun _=>R) e t want) (Bool.rec (motive:=fun _=>R) t e want))
  (fun _ _=>none) (fun ds _=>List.rec (motive:=fun _=>R) e (fun _ _ _=>none) ds) (fun _ _=>none) (fun _ _ _=>none) (fun _ _=>none) (fun _ _ _ _=>none) (fun _ _ _=>none) (fun _=>none) (fun _ _ _=>none) (fun _ _ _=>none) none ⟨⟩ (fun _ _ _ _=>⟨⟩) d
def Au (d:D)(want:Bool):Option Bool:=
 match d with
 | .p (.bool b)=>some (b==want)
 | .tup []=>some false
 |_=>none
theorem yv (d:D)(want:Bool)(t e:R):As d want t e=match Au d want with
  |none=>none
  |some true=>t
  |some false=>e:=by
 cases d<;>try rfl
 ·rename_i x;cases x<;>try rfl
  rename_i b;cases b<;>cases want<;>rfl
 ·rename_i ds;cases ds<;>rfl
theorem pQ {x:dE}(tm:Tm)(h:x.gd=none):cp x tm=some true:=by simp[cp,h]
theorem pR {x:dE}(tm:Tm){g:Nat}{w:Bool}(h:x.gd=some (g,w)):cp x tm=Au (get tm g) w:=by
 unfold cp;rw[h];rfl
def gG (d:D)(want:Bool)(run:KV→R)(hp:List Ob)(k:KV):R:=As d want (run k) (k (.tup []) hp)
def gF (d:D)(want:Bool)(run:KF→R)(hp:List Ob)(k:KF):R:=As d want (run k) (k (.tup []) hp ⟨[],[],false,0⟩)
def Tn (gd:Option (Nat×Bool))(tm:Tm)(run:KV→R)(hp:List Ob)(k:KV):R:=
 match gd with
 |none=>run k
 |some (g,w)=>gG (mD tm g) w run hp k
def Tl (gd:Option (Nat×Bool))(tm:Tm)(run:KF→R)(hp:List Ob)(k:KF):R:=
 match gd with
 |none=>run k
 |some (g,w)=>gF (mD tm g) w run hp k
def qa (tm:Tm)(as:List A):List D:=List.rec (motive:=fun _=>List D) [] (fun a _ ih=>PE tm a::ih) as
theorem AF (tm:Tm):∀as,qa tm as=as.map (ev tm)
 |[]=>rfl
 |a::r=>by
  show PE tm a::qa tm r=_;rw[Mm,AF tm r];rfl
def Av (call:aC)(base:Nat)(ops:List dE):Tm→List Ob→K→R:=
 List.rec (motive:=fun _=>Tm→List Ob→K→R) (fun tm hp k=>k tm hp)
  (fun x _ ih tm hp k=>Tn x.gd tm (fun k=>I1 call base x.op x.k (qa tm x.as) hp k) hp fun v hp=>ih (put x.dst v tm) hp k) ops
theorem GS (call:aC)(base:Nat):∀(ops:List dE) (tm:Tm) (hp:List Ob) (k:K),Av call base ops tm hp k=match jo call base ops ⟨tm,hp⟩with
  |none=>none
  |some st=>k st.tm st.hp
 |[],tm,hp,k=>rfl
 |x::r,tm,hp,k=>by
  have step:∀v hp',Av call base r (put x.dst v tm) hp' k=match jo call base r ⟨put x.dst v tm,hp'⟩with
   |none=>none
   |some st=>k st.tm st.hp:=fun v hp'=>GS call base r _ _ _
  have run:(I1 call base x.op x.k (qa tm x.as) hp fun v hp=>Av call base r (put x.dst v tm) hp k)=match (match nr call base x ⟨tm,hp⟩with
    |none=>none
    |some (st',_)=>jo call base r st')with
   |none=>none
   |some st=>k st.tm st.hp:=by
   rw[MJ,AF];simp only[cN,nr,QM,Na];cases(!(cb x.op)||bV (aN hp (base+x.k)))
   ·rfl
   ·simp only[cond_true];cases kq call base x.op x.k (x.as.map (ev tm)) (bg x.op (x.as.map (ev tm)) hp) ((bg x.op (x.as.map (ev tm)) hp).map (aN hp)) hp.length with
    |none=>rfl
    |some e=>
     obtain⟨v,ups,new⟩:=e;exact step _ _
  show Tn x.gd tm (fun k=>I1 call base x.op x.k (qa tm x.as) hp k) hp (fun v hp=>Av call base r (put x.dst v tm) hp k)=_;simp only[jo,Tn];cases hg:x.gd with
  |none=>rw[pQ tm hg];exact run
  |some p=>
   obtain⟨g,w⟩:=p;rw[pR tm hg];simp only[gG,yv,eT];cases Au (get tm g) w with
   |none=>rfl
   |some b=>
    cases b
    ·exact step _ _
    ·exact run
def pU (call:aC)(base:Nat)(ops:List dE):Tm→List Ob→List df→(Tm→List Ob→List df→R)→R:=
 List.rec (motive:=fun _=>Tm→List Ob→List df→(Tm→List Ob→List df→R)→R) (fun tm hp fs k=>k tm hp fs.reverse)
  (fun x _ ih tm hp fs k=>Tl x.gd tm (fun k=>th call base x.op x.k (qa tm x.as) hp k) hp fun v hp f=>ih (put x.dst v tm) hp (f::fs) k) ops
theorem CK (call:aC)(base:Nat):∀(ops:List dE) (tm:Tm) (hp:List Ob) (fs:List df) (k:Tm→List Ob→List df→R),pU call base ops tm hp fs k=match cU call base ops ⟨tm,hp⟩ fs with
  |none=>none
  |some (st,fs)=>k st.tm st.hp fs
 |[],tm,hp,fs,k=>rfl
 |x::r,tm,hp,fs,k=>by
  have step:∀v hp' f,pU call base r (put x.dst v tm) hp' (f::fs) k=match cU call base r ⟨put x.dst v tm,hp'⟩ (f::fs)with
   |none=>none
   |some (st,fs)=>k st.tm st.hp fs:=fun v hp' f=>CK call base r _ _ _ _
  have run:(th call base x.op x.k (qa tm x.as) hp fun v hp f=>pU call base r (put x.dst v tm) hp (f::fs) k)=match (match nr call base x ⟨tm,hp⟩with
    |none=>none
    |some (st',f)=>cU call base r st' (f::fs))with
   |none=>none
   |some (st,fs)=>k st.tm st.hp fs:=by
   rw[P1,AF];simp only[Am,nr,QM,Na];cases(!(cb x.op)||bV (aN hp (base+x.k)))
   ·rfl
   ·simp only[cond_true];cases kq call base x.op x.k (x.as.map (ev tm)) (bg x.op (x.as.map (ev tm)) hp) ((bg x.op (x.as.map (ev tm)) hp).map (aN hp)) hp.length with
    |none=>rfl
    |some e=>
     obtain⟨v,ups,new⟩:=e;exact step _ _ _
  show Tl x.gd tm (fun k=>th call base x.op x.k (qa tm x.as) hp k) hp (fun v hp f=>pU call base r (put x.dst v tm) hp (f::fs) k)=_;simp only[cU,Tl];cases hg:x.gd with
  |none=>rw[pQ tm hg];exact run
  |some p=>
   obtain⟨g,w⟩:=p;rw[pR tm hg];simp only[gF,yv,eT];cases Au (get tm g) w with
   |none=>rfl
   |some b=>
    cases b
    ·exact step _ _ _
    ·exact run
end
end Go.Ab
end
section
namespace Go.Ab
open Go
abbrev Sem:=aC→Nat→Nat→Tm→List Ob→K→(Nat→K)→K→R
noncomputable section
def Gq (d:D)(t e:R):R:=eL d none fun x=>pq x none t e
def iS (out:List Nat)(tm:Tm):Tm:=List.rec (motive:=fun _=>Tm) .nil (fun s _ ih=> .cons s (mD tm s) ih) out
theorem vK (tm:Tm):∀out,iS out tm=dR out id tm
 |[]=>rfl
 |s::r=>by
  show Tm.cons s (mD tm s) (iS r tm)=_;rw[eT,vK tm r];rfl
def pP (nal:Nat)(hp:List Ob):List Ob:=Nat.rec (motive:=fun _=>List Ob) hp (fun n _=>grow hp (List.replicate (n+1) .unborn)) nal
theorem CF (nal:Nat)(hp:List Ob):pP nal hp=grow hp (List.replicate nal .unborn):=by cases nal<;>rfl
def Aj (d:D)(e:R)(k:D→R):R:=
 D.rec (motive_1:=fun _=>R) (motive_2:=fun _=>PUnit.{1})
  (fun x=>m7 x fun x=>k (.p x)) (fun _ _=>e) (fun _ _=>e) (fun _ _=>e) (fun _ _ _=>e) (fun x off=>k (.ip x off))
  (fun _ _ _ _=>e) (fun g z es=>k (.sl g z es)) (fun _=>e) (fun _ _ _=>e) (fun _ _ _=>e) (k .junk) ⟨⟩ (fun _ _ _ _=>⟨⟩) d
def iR:D→Bool
 | .p _=>true
 | .ip _ _=>true
 | .sl _ _ _=>true
 | .junk=>true
 |_=>false
theorem IQ (d:D)(e:R)(k:D→R):Aj d e k=bif iR d then k d else e:=by
 cases d<;>try rfl
 simp only[Aj,oD,iR,cond_true]
def AT (live:List Nat)(tm:Tm)(e:R)(k:Tm→R):R:=
 List.rec (motive:=fun _=>(Tm→R)→R) (fun k=>k .nil) (fun s _ ih k=>Aj (mD tm s) e fun d=>ih fun r=>k (.cons s d r)) live k
theorem yS (tm:Tm)(e:R):∀(live:List Nat) (k:Tm→R),AT live tm e k=bif live.all (fun s=>iR (get tm s))then k (dR live id tm)else e
 |[],k=>rfl
 |s::r,k=>by
  show Aj (mD tm s) e (fun d=>AT r tm e fun r=>k (.cons s d r))=_;rw[IQ,yS tm e r,eT];simp only[List.all_cons,dR,id];cases iR (get tm s)<;>rfl
def Tp (m:Nat)(g:Gh)(tm:Tm)(hp:List Ob)(k:K):R:=caseO (jd m g ⟨tm,hp⟩) none fun st=>forceTm st.tm fun tm=>forceHb st.hp fun hp=>k tm hp
theorem Sw (m:Nat)(g:Gh)(tm:Tm)(hp:List Ob)(k:K):Tp m g tm hp k=caseO (jd m g ⟨tm,hp⟩) none fun st=>k st.tm st.hp:=by
 unfold Tp;congr 1;funext st;rw[oF,iP]
def AD (live:List Nat)(tm:Tm)(ws:List Nat):List Nat:=List.rec (motive:=fun _=>List Nat) ws (fun s _ ih=>yg (mD tm s) ih) live
theorem vV (tm:Tm)(ws:List Nat):∀live,AD live tm ws=dids.didsL (live.map (get tm))++ws
 |[]=>rfl
 |s::r=>by
  show yg (mD tm s) (AD r tm ws)=_;rw[pB,vV tm ws r,eT];simp only[List.map_cons,dids.didsL,mζ]
def Aw (f:D→D)(live:List Nat)(tm:Tm):Tm:=List.rec (motive:=fun _=>Tm) .nil (fun s _ ih=> .cons s (f (mD tm s)) ih) live
theorem vN (f:D→D)(tm:Tm):∀live,Aw f live tm=dR live f tm
 |[]=>rfl
 |s::r=>by
  show Tm.cons s (f (mD tm s)) (Aw f r tm)=_;rw[eT,vN f tm r];rfl
def yx (m:Nat)(live:List Nat)(tm:Tm)(hp:List Ob)(k:K):R:=
 forceNs (eh hp aW (AD live tm (gC m hp)) (List.range m)) fun ids=>
  forceTm (Aw (fS (hC ids)) live tm) fun tm=>forceHb (lx ids hp) fun hp=>k tm hp
theorem vM (m:Nat)(live:List Nat)(tm:Tm)(hp:List Ob)(k:K):yx m live tm hp k=caseO (jd m (.keep live) ⟨tm,hp⟩) none fun st=>k st.tm st.hp:=by
 simp only[yx,iQ,oF,iP,cz,vV,gq,vN,iZ,ib,jd,caseO];have:∀ids,fS (idx ids)=mapD (idx ids):=fun ids=>funext fun d=>eN _ d
 simp only[this]
def MM (m:Nat)(live:List Nat)(tm:Tm)(hp:List Ob)(k:K):R:=
 List.rec (motive:=fun _=>R) (Nat.rec (motive:=fun _=>R) (AT live tm (yx m live tm hp k) fun tm=>k tm []) (fun _ _=>yx m live tm hp k) m) (fun _ _ _=>yx m live tm hp k) hp
theorem CX (σ:Nat→Option Nat){d:D}(h:iR d=true):mapD σ d=d:=by
 cases d<;>simp_all [iR,mapD]
theorem Cf {d:D}(h:iR d=true):dids d=[]:=by
 cases d<;>simp_all [iR,dids]
theorem pC:∀{ds:List D},ds.all iR=true→dids.didsL ds=[]
 |[],_=>rfl
 |d::r,h=>by
  simp only[List.all_cons,lβ]at h;simp only[dids.didsL,Cf h.1,pC h.2,lχ]
theorem nD (σ:Nat→Option Nat)(tm:Tm):∀{live:List Nat},live.all (fun s=>iR (get tm s))=true→dR live (mapD σ) tm=dR live id tm
 |[],_=>rfl
 |s::r,h=>by
  simp only[List.all_cons,lβ]at h;simp only[dR,CX σ h.1,nD σ tm h.2,id]
theorem MN (m:Nat)(live:List Nat)(tm:Tm)(hp:List Ob)(k:K):MM m live tm hp k=caseO (jd m (.keep live) ⟨tm,hp⟩) none fun st=>k st.tm st.hp:=by
 cases hp with
 |cons o r=>exact vM _ _ _ _ _
 |nil=>
  cases m with
  |succ m=>exact vM _ _ _ _ _
  |zero=>
   show AT live tm (yx 0 live tm [] k) (fun tm=>k tm [])=_;rw[yS,vM];cases h:live.all (fun s=>iR (get tm s))
   ·rfl
   ·have hd:dids.didsL (live.map (get tm))=[]:=pC (by rw[List.all_map];exact h);simp only[cond_true,jd,hd,List.take_nil,List.flatMap_nil,lχ,m3,caseO];rw[nD _ tm h];rfl
def yC (m:Nat)(live:List Nat)(body:Tm→List Ob→K→R)(aO:Nat)(tm:Tm)(hp:List Ob):R:=
 Nat.rec (motive:=fun _=>Tm→List Ob→R) (fun _ _=>none) (fun _ ih tm hp=>MM m live tm hp fun tm hp=>body tm hp ih) aO tm hp
def Rf:Sem:=fun _ _ _ tm hp kn _ _=>kn tm hp
def Uf:Sem:=fun _ _ _ tm hp _ _ kr=>kr tm hp
def Q3 (id:Nat):Sem:=fun _ _ _ tm hp _ ke _=>ke id tm hp
def Vi (a b:Sem):Sem:=fun c n m tm hp kn ke kr=>a c n m tm hp (fun tm hp=>b c n m tm hp kn ke kr) ke kr
def TI (x:A)(t e:Sem):Sem:=fun c n m tm hp kn ke kr=>Gq (PE tm x) (t c n m tm hp kn ke kr) (e c n m tm hp kn ke kr)
def RR (id:Nat)(b:Sem):Sem:=fun c n m tm hp kn ke kr=>b c n m tm hp kn (fun i tm hp=>oI (Nat.beq i id) (kn tm hp) (ke i tm hp)) kr
def T2 (live:List Nat)(b:Sem):Sem:=fun c n m tm hp _ ke kr=>yC m live (fun tm hp k=>b c n m tm hp k ke kr) n tm hp
def VM (g:Gh)(b:Sem):Sem:=fun c n m tm hp kn ke kr=>Tp m g tm hp fun tm hp=>b c n m tm hp kn ke kr
def Vg (nal:Nat)(f:aC→Nat→Tm→List Ob→K→R):Sem:=fun c _ _ tm hp kn _ _=>f c hp.length tm (pP nal hp) kn
def Vf (nal:Nat)(ps:List (Nat×Nat))(f:aC→Nat→Tm→List Ob→(Tm→List Ob→List df→R)→R):Sem:=fun c _ _ tm hp kn _ _=>f c hp.length tm (pP nal hp) fun tm hp fs=>oI (eg fs ps) (kn tm hp) none
def Ue (nal:Nat)(ops:List dE)(prs:Option (List (Nat×Nat)))(out:List Nat):Sem:=
 match prs with
 |none=>Vg nal fun call base tm hp k=>Av call base ops tm hp fun tm hp=>k (iS out tm) hp
 |some ps=>Vf nal ps fun call base tm hp k=>pU call base ops tm hp [] fun tm hp fs=>k (iS out tm) hp fs
def LU (c:Co):Sem:=
 Co.rec (motive:=fun _=>Sem) Rf (fun nal ops prs out=>Ue nal ops prs out) (fun _ _ a b=>Vi a b) (fun c _ _ t e=>TI c t e) (fun id _ b=>RR id b) (fun live _ b=>T2 live b) (fun id=>Q3 id) Uf (fun g _ c=>VM g c) c
def xJ (r:Option (Ex×St))(kn:K)(ke:Nat→K)(kr:K):R:=
 match r with
 |none=>none
 |some (.norm,st)=>kn st.tm st.hp
 |some (.exit i,st)=>ke i st.tm st.hp
 |some (.ret,st)=>kr st.tm st.hp
theorem CV {m:Nat}{live:List Nat}{body:St→Option (Ex×St)}{bodyK:Tm→List Ob→K→(Nat→K)→K→R}{ke:Nat→K}{kr kn:K}(hb:∀tm hp kn,bodyK tm hp kn ke kr=xJ (body ⟨tm,hp⟩) kn ke kr):∀(aO:Nat) (tm:Tm) (hp:List Ob),yC m live (fun tm hp k=>bodyK tm hp k ke kr) aO tm hp=xJ (rz m body live aO ⟨tm,hp⟩) kn ke kr
 |0,tm,hp=>rfl
 |n+1,tm,hp=>by
  show MM m live tm hp (fun tm hp=>bodyK tm hp (yC m live (fun tm hp k=>bodyK tm hp k ke kr) n) ke kr)=_;rw[MN];simp only[rz];cases jd m (.keep live) ⟨tm,hp⟩with
  |none=>rfl
  |some st=>
   show bodyK st.tm st.hp (yC m live (fun tm hp k=>bodyK tm hp k ke kr) n) ke kr=_;rw[hb];show xJ (body st) _ ke kr=xJ (match body st with
    |some (.norm,st')=>rz m body live n st'
    |r=>r) kn ke kr
   cases body st with
   |none=>rfl
   |some p=>
    obtain⟨ex,st'⟩:=p;cases ex with
    |norm=>exact CV hb n _ _
    |exit i=>rfl
    |ret=>rfl
theorem mt (call:aC)(aO m:Nat):∀(c:Co) (tm:Tm) (hp:List Ob) (kn:K) (ke:Nat→K) (kr:K),LU c call aO m tm hp kn ke kr=xJ (bT call aO m c ⟨tm,hp⟩) kn ke kr
 | .skip,tm,hp,kn,ke,kr=>rfl
 | .ret,tm,hp,kn,ke,kr=>rfl
 | .exit i,tm,hp,kn,ke,kr=>rfl
 | .reg nal ops none out,tm,hp,kn,ke,kr=>by
  show Av call hp.length ops tm (pP nal hp) (fun tm hp=>kn (iS out tm) hp)=_;rw[GS,CF];simp only[bT,pJ];cases jo call hp.length ops ⟨tm,grow hp (List.replicate nal .unborn)⟩with
  |none=>rfl
  |some st=>simp only[xJ,vK]
 | .reg nal ops (some ps) out,tm,hp,kn,ke,kr=>by
  show pU call hp.length ops tm (pP nal hp) [] (fun tm hp fs=>oI (eg fs ps) (kn (iS out tm) hp) none)=_;rw[CK,CF];simp only[bT,pJ];cases cU call hp.length ops ⟨tm,grow hp (List.replicate nal .unborn)⟩ []with
  |none=>rfl
  |some p=>
   obtain⟨st,fs⟩:=p;simp only[eZ];cases eg fs ps
   ·rfl
   ·simp only[xJ,cond_true,vK]
 | .seq a b,tm,hp,kn,ke,kr=>by
  show LU a call aO m tm hp (fun tm hp=>LU b call aO m tm hp kn ke kr) ke kr=_;rw[mt call aO m a];simp only[bT];cases bT call aO m a ⟨tm,hp⟩with
  |none=>rfl
  |some p=>
   obtain⟨ex,st⟩:=p;cases ex with
   |norm=>exact mt call aO m b _ _ _ _ _
   |exit i=>rfl
   |ret=>rfl
 | .cond c t e,tm,hp,kn,ke,kr=>by
  show Gq (PE tm c) (LU t call aO m tm hp kn ke kr) (LU e call aO m tm hp kn ke kr)=_;rw[mt call aO m t,mt call aO m e,Mm];simp only[bT];cases ev tm c<;>try rfl
  rename_i x;cases x<;>try rfl
  rename_i b;cases b<;>rfl
 | .block id b,tm,hp,kn,ke,kr=>by
  show LU b call aO m tm hp kn (fun i tm hp=>oI (Nat.beq i id) (kn tm hp) (ke i tm hp)) kr=_;rw[mt call aO m b];simp only[bT];cases bT call aO m b ⟨tm,hp⟩with
  |none=>rfl
  |some p=>
   obtain⟨ex,st⟩:=p;cases ex with
   |norm=>rfl
   |ret=>rfl
   |exit i=>
    simp only[xJ,eZ];cases Nat.beq i id<;>rfl
 | .loop live b,tm,hp,kn,ke,kr=>CV (fun tm hp kn=>mt call aO m b tm hp kn ke kr) aO tm hp
 | .gh g c,tm,hp,kn,ke,kr=>by
  show Tp m g tm hp (fun tm hp=>LU c call aO m tm hp kn ke kr)=_;rw[Sw];simp only[bT];cases jd m g ⟨tm,hp⟩with
  |none=>rfl
  |some st=>exact mt call aO m c _ _ _ _ _
theorem yo (hp:List Ob):∀{ds:List D},ds.all DN=true→nt hp ds=(ds,hp)
 |[],_=>rfl
 |d::r,h=>by
  simp only[List.all_cons,lβ]at h;cases d<;>simp only[DN,Bool.false_eq_true,false_and]at h;have e:nt hp r=(r,hp):=yo hp h.2;simp only[nt,dids,List.map_nil,pur,cj,aj,e]
def ES (m:Nat)(ds:List D)(hp:List Ob):R:=
 forceNs (eh hp aW (dA ds (gC m hp)) (List.range m)) fun ids=>mB (fS (hC ids) (one ds)) fun r=>forceHb (lx ids hp) fun out=>some (r,out)
def PJ (m:Nat)(fz:Bool)(ds:List D)(hp:List Ob):R:=
 mO ds (Bool.rec (motive:=fun _=>R) (ES m ds hp) (Prod.rec (motive:=fun _=>R) (fun ds hp=>ES m ds hp) (nt hp ds)) fz)
  fun ds=>Nat.rec (motive:=fun _=>R) (some (one ds,[])) (fun _ _=>ES m ds hp) m
theorem Ag (m:Nat)(ds:List D)(hp:List Ob):ES m ds hp=some (mapD (idx (close hp aW (dids.didsL ds++(hp.take m).flatMap gR) (List.range m))) (one ds),bt (close hp aW (dids.didsL ds++(hp.take m).flatMap gR) (List.range m)) hp):=by
 simp only[ES,iQ,IR,iP,cz,cT,gq,eN,ib,iZ]
theorem GC (m:Nat)(fz:Bool)(ds:List D)(hp:List Ob):PJ m fz ds hp=some (gZ m fz ds hp):=by
 unfold PJ;rw[gS];cases h:ds.all DN
 ·cases fz with
  |false=>exact Ag m ds hp
  |true=>
   show Prod.rec (motive:=fun _=>R) (fun ds hp=>ES m ds hp) (nt hp ds)=_;simp only[gZ,cond_true];cases nt hp ds;exact Ag _ _ _
 ·have e:(bif fz then nt hp ds else(ds,hp))=(ds,hp):=by cases fz<;>simp[yo hp h]
  cases m with
  |succ m=>
   show ES (m+1) ds hp=_;rw[Ag];simp only[gZ,e]
  |zero=>
   have hp1:wD (one ds)=true:=by
    unfold one;split
    ·rename_i d;simp only[List.all_cons,lβ]at h;cases d<;>simp_all [DN,wD]
    ·exact h
   simp only[cond_true,gZ,e,m4 h,List.take_zero,List.flatMap_nil,lχ,m3,List.range_zero];rw[rG _ hp1];rfl
def Un (tm:Tm)(hp:List Ob)(r:Rv)(k:D→R):R:=
 Rv.rec (motive:=fun _=>R) (fun n=>k (mD tm n)) (fun a n agg=>D.rec (motive_1:=fun _=>R) (motive_2:=fun _=>PUnit.{1})
  (fun _=>none) (fun _ _=>none) (fun _ _=>none) (fun id off=>jm (Bi hp id) none fun cs=>FX cs off n fun ds=>oR agg ds k) (fun _ _ _=>none) (fun _ _=>none) (fun _ _ _ _=>none) (fun _ _ _=>none) (fun _=>none) (fun _ _ _=>none) (fun _ _ _=>none) none ⟨⟩ (fun _ _ _ _=>⟨⟩) (mD tm a)) r
theorem S8 (tm:Tm)(hp:List Ob)(r:Rv)(k:D→R):Un tm hp r k=caseO (Cv ⟨tm,hp⟩ r) none k:=by
 cases r with
 |t n=>simp only[Un,Cv,eT,caseO]
 |cell a n agg=>
  simp only[Un,Cv,eT,jN,qt,j8];cases get tm a<;>try rfl
  rename_i id off;have:aN hp id=hp.getD id .dead:=rfl;simp only[this];cases hp.getD id .dead<;>try rfl
  rename_i cs;simp only[jm];cases sub cs off n<;>rfl
def Qx (tm:Tm)(hp:List Ob)(rs:List Rv)(k:List D→R):R:=
 List.rec (motive:=fun _=>(List D→R)→R) (fun k=>k []) (fun r _ ih k=>Un tm hp r fun d=>ih fun ds=>k (d::ds)) rs k
theorem Hh (tm:Tm)(hp:List Ob):∀(rs:List Rv) (k:List D→R),Qx tm hp rs k=caseO (iN ⟨tm,hp⟩ rs) none k
 |[],k=>rfl
 |r::rs,k=>by
  show Un tm hp r (fun d=>Qx tm hp rs fun ds=>k (d::ds))=_;rw[S8];simp only[Hh tm hp rs,iN];cases Cv ⟨tm,hp⟩ r with
  |none=>rfl
  |some d=>
   simp only[caseO];cases iN ⟨tm,hp⟩ rs<;>rfl
def DA (b:Sem)(call:aC)(n:Nat)(res:List Rv)(fz:Bool)(args:List D)(hp:List Ob):R:=
 b call n hp.length (dL args 0) hp (fun tm hp'=>Qx tm hp' res fun ds=>PJ hp.length fz ds hp') (fun _ _ _=>none) (fun tm hp'=>Qx tm hp' res fun ds=>PJ hp.length fz ds hp')
theorem Hg (call:aC)(aO:Nat)(x:Fx)(args:List D)(hp:List Ob):DA (LU x.body) call aO x.res x.fz args hp=Re call aO x args hp:=by
 unfold DA Re mR;simp only[Hh];rw[mt];cases bT call aO hp.length x.body ⟨dL args 0,hp⟩with
 |none=>rfl
 |some p=>
  obtain⟨ex,st⟩:=p;cases ex with
  |norm=>
   simp only[xJ,GC];cases iN st x.res<;>rfl
  |ret=>
   simp only[xJ,GC];cases iN st x.res<;>rfl
  |exit i=>rfl
inductive Hn where
 |code (b:Sem) (res:List Rv) (fz:Bool)
 |prim (g:List Da→Option (D×List Ob))
 |both (g:List Da→Option (D×List Ob)) (b:Sem) (res:List Rv) (fz:Bool)
 |any (g:List D→List Ob→Option (D×List Ob))
def hn (tab:Option Hn)(ih:aC)(n:Nat)(args:List D)(hp:List Ob):R:=
 Option.rec (motive:=fun _=>R) none (fun h=>Hn.rec (motive:=fun _=>R) (fun b res fz=>DA b ih n res fz args hp) (fun g=>match fW args with
   |some xs=>match hp with
    |[]=>g xs
    |_=>none
   |none=>none) (fun g b res fz=>match fW args with
   |some xs=>match hp with
    |[]=>g xs
    |_=>DA b ih n res fz args hp
   |none=>DA b ih n res fz args hp) (fun g=>g args hp) h) tab
def Be (tab:Nat→Option Hn)(n:Nat):aC:=
 Nat.rec (motive:=fun _=>aC) (fun _ _ _=>none) (fun n ih f args hp=>hn (tab f) ih n args hp) n
def same (a:Option Hn)(b:Option Fn):Prop:=
 match a,b with
 |none,none=>True
 |some (.code g res fz),some (.code x)=>LU x.body=g∧x.res=res∧x.fz=fz
 |some (.prim g),some (.prim h)=>g=h
 |some (.both g b res fz),some (.both h x)=>g=h∧LU x.body=b∧x.res=res∧x.fz=fz
 |some (.any g),some (.any h)=>g=h
 |_,_=>False
theorem Mo {tabH:Nat→Option Hn}{tab:Nat→Option Fn}(h:∀f,same (tabH f) (tab f)):∀n,Be tabH n=evFn tab n
 |0=>by funext f args hp;rfl
 |n+1=>by
  funext f args hp
  show hn (tabH f) (Be tabH n) n args hp=_;rw[Mo h n];have hf:=h f;simp only[evFn,SG];cases h1:tabH f with
  |none=>
   rw[h1]at hf;cases h2:tab f with
   |none=>rfl
   |some x=>rw[h2]at hf;cases x<;>exact hf.elim
  |some a=>
   rw[h1]at hf;cases h2:tab f with
   |none=>rw[h2]at hf;cases a<;>exact hf.elim
   |some x=>
    rw[h2]at hf;cases a with
    |code g res fz=>
     cases x with
     |code x=>
      obtain⟨h3,rfl,rfl⟩:=hf;show DA g (evFn tab n) n x.res x.fz args hp=_;rw[←h3,Hg]
     |prim q=>exact hf.elim
     |both q x=>exact hf.elim
     |any q=>exact hf.elim
    |prim g=>
     cases x with
     |code x=>exact hf.elim
     |prim q=>obtain rfl:g=q:=hf;rfl
     |both q x=>exact hf.elim
     |any q=>exact hf.elim
    |both g b res fz=>
     cases x with
     |code x=>exact hf.elim
     |prim q=>exact hf.elim
     |both q x=>
      obtain⟨rfl,h3,rfl,rfl⟩:=hf;show(match fW args with
       |some xs=>match hp with
        |[]=>g xs
        |_=>DA b (evFn tab n) n x.res x.fz args hp
       |none=>DA b (evFn tab n) n x.res x.fz args hp)=_
      rw[←h3,Hg];rfl
     |any q=>exact hf.elim
    |any g=>
     cases x with
     |code x=>exact hf.elim
     |prim q=>exact hf.elim
     |both q x=>exact hf.elim
     |any q=>obtain rfl:g=q:=hf;rfl
def SC (b:Bool)(x y:Option Hn):Option Hn:=Bool.rec (motive:=fun _=>Option Hn) y x b
theorem yX {b:Bool}{x y:Option Hn}{x' y':Option Fn}(h:same x x')(k:same y y'):same (SC b x y) (bif b then x' else y'):=by
 cases b
 ·exact k
 ·exact h
end
end Go.Ab
end
section
namespace Go.Ab
open Go
noncomputable section
def ot (a b:Bool):Bool:=Bool.rec (motive:=fun _=>Bool) false b a
theorem pn (a b:Bool):ot a b=(a&&b):=by cases a<;>rfl
def Ut (y:Da)(k:IntKind→Int→Bool):Bool:=
 Da.rec (motive_1:=fun _=>Bool) (motive_2:=fun _=>PUnit.{1}) (fun _=>false) (fun i n=>k i n) (fun _=>false) (fun _ _=>false) (fun _ _ _=>false) false (fun _ _=>false) (fun _ _ _ _=>false) false (fun _ _ _=>false) false (fun _ _ _=>false) false (fun _ _ _=>false) (fun _ _=>false) ⟨⟩ (fun _ _ _ _=>⟨⟩) y
def Uv (y:Da)(k:List Nat→Bool):Bool:=
 Da.rec (motive_1:=fun _=>Bool) (motive_2:=fun _=>PUnit.{1}) (fun _=>false) (fun _ _=>false) (fun s=>k s) (fun _ _=>false) (fun _ _ _=>false) false (fun _ _=>false) (fun _ _ _ _=>false) false (fun _ _ _=>false) false (fun _ _ _=>false) false (fun _ _ _=>false) (fun _ _=>false) ⟨⟩ (fun _ _ _ _=>⟨⟩) y
def Us (y:Da)(k:List Da→Bool):Bool:=
 Da.rec (motive_1:=fun _=>Bool) (motive_2:=fun _=>PUnit.{1}) (fun _=>false) (fun _ _=>false) (fun _=>false) (fun cs _=>k cs) (fun _ _ _=>false) false (fun _ _=>false) (fun _ _ _ _=>false) false (fun _ _ _=>false) false (fun _ _ _=>false) false (fun _ _ _=>false) (fun _ _=>false) ⟨⟩ (fun _ _ _ _=>⟨⟩) y
def NR (y:Da)(k:Nat→List Da→Bool):Bool:=
 Da.rec (motive_1:=fun _=>Bool) (motive_2:=fun _=>PUnit.{1}) (fun _=>false) (fun _ _=>false) (fun _=>false) (fun _ _=>false) (fun z es _=>k z es) false (fun _ _=>false) (fun _ _ _ _=>false) false (fun _ _ _=>false) false (fun _ _ _=>false) false (fun _ _ _=>false) (fun _ _=>false) ⟨⟩ (fun _ _ _ _=>⟨⟩) y
def Hy (y:Da)(k:Nat→List Da→Bool):Bool:=
 Da.rec (motive_1:=fun _=>Bool) (motive_2:=fun _=>PUnit.{1}) (fun _=>false) (fun _ _=>false) (fun _=>false) (fun _ _=>false) (fun _ _ _=>false) false (fun _ _=>false) (fun _ _ _ _=>false) false (fun _ _ _=>false) false (fun _ _ _=>false) false (fun z es _=>k z es) (fun _ _=>false) ⟨⟩ (fun _ _ _ _=>⟨⟩) y
def Mj (m n:Int):Bool:=Int.rec (motive:=fun _=>Bool) (fun a=>Int.rec (motive:=fun _=>Bool) (fun b=>Nat.beq a b) (fun _=>false) n) (fun a=>Int.rec (motive:=fun _=>Bool) (fun _=>false) (fun b=>Nat.beq a b) n) m
theorem Pz {m n:Int}(h:Mj m n=true):m=n:=by
 cases m<;>cases n<;>simp only[Mj,Bool.false_eq_true]at h
 ·rw[lζ h]
 ·rw[lζ h]
theorem Cr:∀{a b:List Nat},cM a b=true→a=b
 |[],[],_=>rfl
 |[],_::_,h=>by simp[cM]at h
 |_::_,[],h=>by simp[cM]at h
 |x::a,y::b,h=>by
  simp only[cM]at h;cases hx:Nat.beq x y
  ·simp[hx]at h
  ·simp only[hx,cond_true]at h;rw[lζ hx,Cr h]
def Py (x:Da):Da→Bool:=
 Da.rec (motive_1:=fun _=>Da→Bool) (motive_2:=fun _=>List Da→Bool)
  (fun _ _=>false) (fun i n y=>Ut y fun j m=>ot (Nat.beq (kc i) (kc j)) (Mj n m)) (fun s y=>Uv y fun t=>ER s t) (fun _ ih y=>Us y ih) (fun z _ ih y=>NR y fun z' es'=>ot (Nat.beq z z') (ih es'))
  (fun _=>false) (fun _ _ _=>false) (fun _ _ _ _ _=>false) (fun _=>false) (fun _ _ _ _=>false) (fun _=>false) (fun _ _ _ _=>false) (fun _=>false) (fun z _ ih y=>Hy y fun z' es'=>ot (Nat.beq z z') (ih es')) (fun _ _ _=>false)
  (fun ys=>List.rec (motive:=fun _=>Bool) true (fun _ _ _=>false) ys) (fun _ _ ihd ihr ys=>List.rec (motive:=fun _=>Bool) false (fun y ys _=>ot (ihd y) (ihr ys)) ys) x
def Cp (xs:List Da):List Da→Bool:=
 List.rec (motive:=fun _=>List Da→Bool) (fun ys=>List.rec (motive:=fun _=>Bool) true (fun _ _ _=>false) ys) (fun x _ ih ys=>List.rec (motive:=fun _=>Bool) false (fun y ys _=>ot (Py x y) (ih ys)) ys) xs
mutual
theorem Gy:∀(x y:Da),Py x y=true→x=y
 | .bool _,y,h=>absurd (show false=true from h) Bool.false_ne_true
 | .int i n,y,h=>by
  cases y<;>try exact absurd (show false=true from h) Bool.false_ne_true
  rename_i j m;have h':ot (Nat.beq (kc i) (kc j)) (Mj n m)=true:=h;rw[pn,MK,lβ,lγ]at h';rw[h'.1,Pz h'.2]
 | .str s,y,h=>by
  cases y<;>try exact absurd (show false=true from h) Bool.false_ne_true
  rename_i t;have h':ER s t=true:=h;rw[z7]at h';rw[Cr h']
 | .agg cs,y,h=>by
  cases y<;>try exact absurd (show false=true from h) Bool.false_ne_true
  rename_i cs';rw[tQ cs cs' h]
 | .slice z es,y,h=>by
  cases y<;>try exact absurd (show false=true from h) Bool.false_ne_true
  rename_i z' es';have h':ot (Nat.beq z z') _=true:=h;rw[pn,lβ]at h';rw[lζ h'.1,tQ es es' h'.2]
 | .nilptr,y,h=>absurd (show false=true from h) Bool.false_ne_true
 | .ptr _,y,h=>absurd (show false=true from h) Bool.false_ne_true
 | .map _ _,y,h=>absurd (show false=true from h) Bool.false_ne_true
 | .nilmap,y,h=>absurd (show false=true from h) Bool.false_ne_true
 | .fn _ _,y,h=>absurd (show false=true from h) Bool.false_ne_true
 | .nilfn,y,h=>absurd (show false=true from h) Bool.false_ne_true
 | .iface _ _,y,h=>absurd (show false=true from h) Bool.false_ne_true
 | .nilif,y,h=>absurd (show false=true from h) Bool.false_ne_true
 | .sliceE z es,y,h=>by
  cases y<;>try exact absurd (show false=true from h) Bool.false_ne_true
  rename_i z' es';have h':ot (Nat.beq z z') _=true:=h;rw[pn,lβ]at h';rw[lζ h'.1,tQ es es' h'.2]
 | .sym _ _,y,h=>absurd (show false=true from h) Bool.false_ne_true
theorem tQ:∀(xs ys:List Da),Da.rec_1 (motive_1:=fun _=>Da→Bool) (motive_2:=fun _=>List Da→Bool)
  (fun _ _=>false) (fun i n y=>Ut y fun j m=>ot (Nat.beq (kc i) (kc j)) (Mj n m)) (fun s y=>Uv y fun t=>ER s t) (fun _ ih y=>Us y ih) (fun z _ ih y=>NR y fun z' es'=>ot (Nat.beq z z') (ih es'))
  (fun _=>false) (fun _ _ _=>false) (fun _ _ _ _ _=>false) (fun _=>false) (fun _ _ _ _=>false) (fun _=>false) (fun _ _ _ _=>false) (fun _=>false) (fun z _ ih y=>Hy y fun z' es'=>ot (Nat.beq z z') (ih es')) (fun _ _ _=>false)
  (fun ys=>List.rec (motive:=fun _=>Bool) true (fun _ _ _=>false) ys) (fun _ _ ihd ihr ys=>List.rec (motive:=fun _=>Bool) false (fun y ys _=>ot (ihd y) (ihr ys)) ys) xs ys=true→xs=ys
 |[],[],_=>rfl
 |[],_::_,h=>by cases h
 |_::_,[],h=>by cases h
 |x::xs,y::ys,h=>by
  have h':ot (Py x y) _=true:=h;rw[pn,lβ]at h';rw[Gy x y h'.1,tQ xs ys h'.2]
end
theorem Cq:∀{xs ys:List Da},Cp xs ys=true→xs=ys
 |[],[],_=>rfl
 |[],_::_,h=>by cases h
 |_::_,[],h=>by cases h
 |x::xs,y::ys,h=>by
  have h':ot (Py x y) (Cp xs ys)=true:=h;rw[pn,lβ]at h';rw[Gy x y h'.1,Cq h'.2]
def memo (l:List (List Da×R))(xs:List Da):R:=
 List.rec (motive:=fun _=>R) none (fun p _ ih=>Bool.rec (motive:=fun _=>R) ih p.2 (Cp p.1 xs)) l
theorem CY:∀{l:List (List Da×R)} {xs:List Da} {ro:D×List Ob},memo l xs=some ro→∃p∈l,p.1=xs∧p.2=some ro
 |[],xs,ro,h=>by cases h
 |p::l,xs,ro,h=>by
  have h':Bool.rec (motive:=fun _=>R) (memo l xs) p.2 (Cp p.1 xs)=some ro:=h;cases he:Cp p.1 xs
  ·rw[he]at h';obtain⟨q,h1,h2⟩:=CY (l:=l) h';exact⟨q,mκ _ h1,h2⟩
  ·rw[he]at h';exact⟨p,mι ..,Cq he,h'⟩
variable [Letters]
def yF (l:List (List Da×R))(call:aC)(f:Nat)(xs:List Da):R:=
 Option.rec (motive:=fun _=>R) (call f (xs.map .p) []) (fun r=>some r) (memo l xs)
theorem vZ {P:Program}{G:bx}{call:aC}(hc:eF P G call){f:Nat}{l:List (List Da×R)}(h:∀p∈l,p.2=none∨call f (p.1.map .p) []=p.2):gW P G f (yF l call f):=by
 intro xs r out hm;have hcall:call f (xs.map .p) []=some (r,out):=by
  unfold yF at hm;cases hq:memo l xs with
  |none=>rw[hq]at hm;exact hm
  |some ro=>
   rw[hq]at hm;obtain⟨p,hp,hx,hr⟩:=CY hq;rcases h p hp with h1|h1
   ·rw[h1]at hr;cases hr
   ·rw[hr,hx]at h1;rw[h1];exact hm
 obtain⟨c1,c2⟩:=hc f _ [] _ _ hcall;refine⟨c1,fun w S vs hS hg hv=>?_⟩
 exact c2 [] w S vs ⟨rfl,by intro id l o h;simp at h,by rintro b ⟨id,l,o,h,_⟩;simp at h,by intro id id' l l' o o' b h;simp at h,hS⟩ hg (Pw.map_left (by simpa only[VR]using hv))
end
end Go.Ab
end
section
namespace Go.Ab
end Go.Ab
end
section
namespace Go.Ab
open Go
variable [Letters]
theorem Hl {P:Program}{G:bx}{tab:Nat→Option Fn}(h:sa P G tab){k:Nat}{g:List Da→Option (D×List Ob)}(hg:gW P G k g):sa P G (fun f=>bif Nat.beq f k then some (.prim g)else tab f):=by
 refine⟨fun f x hx=>?_,fun f g' hx=>?_,fun f g' x hx=>?_,fun f g' hx=>?_⟩
 ·cases hk:Nat.beq f k
  ·rw[hk]at hx;exact h.code f x hx
  ·rw[hk]at hx;simp at hx
 ·cases hk:Nat.beq f k
  ·rw[hk]at hx;exact h.prim f g' hx
  ·rw[hk]at hx;simp only[cond_true,lα,Fn.prim.injEq]at hx;subst hx;rw[lζ hk];exact hg
 ·cases hk:Nat.beq f k
  ·rw[hk]at hx;exact h.both f g' x hx
  ·rw[hk]at hx;simp at hx
 ·cases hk:Nat.beq f k
  ·rw[hk]at hx;exact h.any f g' hx
  ·rw[hk]at hx;simp at hx
theorem PF {P:Program}{G:bx}(hmix:P.follows .mixedOrders=true){tab:Nat→Option Fn}{tabH:Nat→Option Hn}(h:sa P G tab)(hs:∀f,same (tabH f) (tab f))(n:Nat):eF P G (Be tabH n):=by
 rw[Mo hs n];exact pI hmix h n
end Go.Ab
end
section
namespace Go.Ab
open Go
def MI (x:Nat):List Nat→List Nat
 |[]=>[x]
 |y::r=>bif Nat.beq x y then y::r else bif Nat.blt x y then x::y::r else y::MI x r
def Sf (x:Nat):List Nat→List Nat
 |[]=>[]
 |y::r=>bif Nat.beq x y then r else y::Sf x r
def Ur:List Nat→List Nat→List Nat
 |[],l=>l
 |x::r,l=>MI x (Ur r l)
def bU (x:Nat):List Nat→Bool
 |[]=>false
 |y::r=>bif Nat.beq x y then true else bU x r
def Rg:A→List Nat→List Nat
 | .t n,l=>MI n l
 |_,l=>l
def NA:List A→List Nat→List Nat
 |[],l=>l
 |a::r,l=>Rg a (NA r l)
def T1 (x:dE)(l:List Nat):List Nat:=
 NA x.as (match x.gd with
  |some (g,_)=>MI g (match x.dst with|some d=>Sf d l|none=>l)
  |none=>(match x.dst with|some d=>Sf d l|none=>l))
def GW:List dE→List Nat→List Nat
 |[],out=>out
 |x::r,out=>T1 x (GW r out)
def GE (t:Nat):List (Nat×dE)→Option dE
 |[]=>none
 |(s,x)::r=>bif Nat.beq s t then some x else GE t r
def Ba (d:List (Nat×dE)):Nat→Nat→Nat→Option (Nat×Nat)
 |0,_,_=>none
 |n+1,p,off=>match GE p d with
  |none=>some (p,off)
  |some x=>match x.op,x.as with
   | .fa k,.t q::_=>Ba d n q (off+k)
   | .mv,.t q::_=>Ba d n q off
   | .nilck,.t q::_=>Ba d n q off
   |_,_=>none
def Ve (d:List (Nat×dE))(x:dE):List Gh:=
 match x.op,x.as with
 | .app z _,.t t::_=>match GE t d with
  |none=>[.own t z]
  |some y=>match y.op,y.as with
   | .mv,.t s::_=>match GE s d with
    |none=>[.own s z]
    |some _=>[]
   | .load _ _,.t p::_=>match Ba d 20 p 0 with
    |some (q,off)=>[.ownc q off z]
    |none=>[]
   |_,_=>[]
 |_,_=>[]
def Ni:List (Nat×dE)→List dE→List Gh
 |_,[]=>[]
 |d,x::r=>Ve d x++Ni (match x.dst with|some s=>(s,x)::d|none=>d) r
def qj:Co→List Gh
 | .reg _ ops _ _=>Ni [] ops
 | .seq a b=>qj a++qj b
 | .cond _ a b=>qj a++qj b
 | .block _ b=>qj b
 | .loop _ b=>qj b
 | .gh _ b=>qj b
 |_=>[]
def UY:Gh→Gh→Bool
 | .own s z,.own t y=>Nat.beq s t&&Nat.beq z y
 | .ownc s o z,.ownc t p y=>Nat.beq s t&&(Nat.beq o p&&Nat.beq z y)
 |_,_=>false
def ME (g:Gh):List Gh→Bool
 |[]=>false
 |h::r=>bif UY g h then true else ME g r
def NB:Gh→Nat
 | .own s _=>s
 | .ownc s _ _=>s
 | .frz s=>s
 | .frzc s _=>s
 | .keep _=>0
def DK (h:List Nat):List Gh→List Gh→Co→Co
 |[],_,c=>c
 |g::r,seen,c=>bif bU (NB g) h&&!ME g seen then .gh g (DK h r (g::seen) c)else DK h r seen c
def TO:List (Nat×List Nat)→Nat→List Nat
 |[],_=>[]
 |(j,l)::r,i=>bif Nat.beq j i then l else TO r i
def ta (rl:List Nat):Co→List Nat→List (Nat×List Nat)→Co×List Nat
 | .skip,out,_=>(.skip,out)
 | .ret,_,_=>(.ret,rl)
 | .exit i,_,ex=>(.exit i,TO ex i)
 | .reg n ops ps _,out,_=>(.reg n ops ps out,GW ops out)
 | .seq a b,out,ex=>(.seq (ta rl a (ta rl b out ex).2 ex).1 (ta rl b out ex).1,(ta rl a (ta rl b out ex).2 ex).2)
 | .cond c t e,out,ex=>(.cond c (ta rl t out ex).1 (ta rl e out ex).1,Rg c (Ur (ta rl t out ex).2 (ta rl e out ex).2))
 | .block i b,out,ex=>(.block i (ta rl b out ((i,out)::ex)).1,(ta rl b out ((i,out)::ex)).2)
 | .loop _ b,_,ex=>(DK (ta rl b [] ex).2 (qj b) [] (.loop (ta rl b [] ex).2 (ta rl b (ta rl b [] ex).2 ex).1),(ta rl b [] ex).2)
 | .gh g c,out,ex=>(.gh g (ta rl c out ex).1,(ta rl c out ex).2)
theorem vr (h:List Nat)(c:Co):∀(gs seen:List Gh),er (DK h gs seen c)=er c
 |[],_=>rfl
 |g::r,seen=>by
  simp only[DK];cases bU (NB g) h&&!ME g seen
  ·exact vr h c r seen
  ·exact vr h c r (g::seen)
theorem mz (rl:List Nat):∀(c:Co) (out:List Nat) (ex:List (Nat×List Nat)),er (ta rl c out ex).1=er c
 | .skip,_,_=>rfl
 | .ret,_,_=>rfl
 | .exit _,_,_=>rfl
 | .reg _ _ _ _,_,_=>rfl
 | .seq a b,out,ex=>by simp only[ta,er,mz rl a,mz rl b]
 | .cond c t e,out,ex=>by simp only[ta,er,mz rl t,mz rl e]
 | .block i b,out,ex=>by simp only[ta,er,mz rl b]
 | .loop _ b,out,ex=>by simp only[ta,vr,er,mz rl b]
 | .gh g c,out,ex=>by simp only[ta,er,mz rl c]
def ghAt:List Nat→Gh→Co→Co
 |[],g,c=> .gh g c
 |0::p,g,.seq a b=> .seq (ghAt p g a) b
 |1::p,g,.seq a b=> .seq a (ghAt p g b)
 |0::p,g,.cond c a b=> .cond c (ghAt p g a) b
 |1::p,g,.cond c a b=> .cond c a (ghAt p g b)
 |0::p,g,.block i b=> .block i (ghAt p g b)
 |0::p,g,.loop l b=> .loop l (ghAt p g b)
 |0::p,g,.gh h b=> .gh h (ghAt p g b)
 |_,_,c=>c
theorem PC:∀(p:List Nat) (g:Gh) (c:Co),er (ghAt p g c)=er c:=by
 intro p g c;induction p,g,c using ghAt.induct<;>simp_all [ghAt,er]
def GH:List (List Nat×Gh)→Co→Co
 |[],c=>c
 |(p,g)::r,c=>ghAt p g (GH r c)
theorem Ct:∀(l:List (List Nat×Gh)) (c:Co),er (GH l c)=er c
 |[],_=>rfl
 |(p,g)::r,c=>by simp only[GH,PC,Ct r]
theorem OO {P:Program}{G:bx}{raw:Nat→Bool}{N:Nat}{ops:List Oper}{draw:Bool}{x:Co}(h:EF P G raw N ops draw=some x):er x=x:=by
 unfold EF at h;split at h
 ·cases h
 ·cases draw
  ·simp only[cond_false,lα]at h;subst h;rfl
  ·simp only[cond_true]at h;cases he:gc ops 0
   ·rw[he]at h;cases h
   ·rw[he]at h;simp only[cond_true]at h;split at h
    ·simp only[lα]at h;subst h;rfl
    ·cases h
theorem RS {P:Program}{G:bx}{raw:Nat→Bool}{N:Nat}:∀{c:Code} {x:Co},zP P G raw N c=some x→er x=x:=by
 intro c;induction c<;>intro x h<;>simp only[zP]at h
 all_goals try (first|(simp only[lα]at h;subst h;rfl)|(cases h;done)|exact OO h)
 case seq a b iha ihb=>
  split at h
  ·rename_i a' b' ha hb;simp only[lα]at h;subst h;simp only[er,iha ha,ihb hb]
  ·cases h
 case cond c t e iht ihe=>
  split at h
  ·rename_i c' t' e' hc ht he;simp only[lα]at h;subst h;simp only[er,iht ht,ihe he]
  ·cases h
 case block i b ih=>
  split at h
  ·rename_i b' hb;simp only[lα]at h;subst h;simp only[er,ih hb]
  ·cases h
 case loop b ih=>
  split at h
  ·rename_i b' hb;simp only[lα]at h;subst h;simp only[er,ih hb]
  ·cases h
def Tb:Rv→Nat
 | .t n=>n
 | .cell a _ _=>a
def A6:List Rv→List Nat
 |[]=>[]
 |r::rs=>MI (Tb r) (A6 rs)
structure QI where
 raw:Nat→Nat→Bool
 thaw:Nat→Bool
 ghs:Nat→List (List Nat×Gh)
 prim:Nat→Option (List Da→Option (D×List Ob))
def IT (P:Program)(G:bx)(s:QI)(f:Nat):Option Fx:=
 match P.funcs[f]? with
 |some fn=>match fn.body with
  |some c=>match zP P G (s.raw f) fn.ntmps c,Io P fn.results.toList with
   |some x,some rs=>some ⟨GH (s.ghs f) (ta (A6 rs) x (A6 rs) []).1,rs,!s.thaw f⟩
   |_,_=>none
  |none=>none
 |none=>none
theorem IU {P:Program}{G:bx}{s:QI}{f:Nat}{x:Fx}(h:IT P G s f=some x):∃fn,P.funcs[f]?=some fn∧IP P G (s.raw f) fn x:=by
 unfold IT at h;split at h
 ·rename_i fn hf;refine⟨fn,hf,?_⟩;split at h
  ·rename_i c hc;split at h
   ·rename_i y rs hy hr;simp only[lα]at h;subst h;refine⟨?_,hr⟩;rw[hc];simp only[hy,Ct,mz,RS hy]
   ·cases h
  ·cases h
 ·cases h
def NF (P:Program)(G:bx)(s:QI)(f:Nat):Option Fn:=
 match s.prim f with
 |some g=>match IT P G s f with
  |some x=>some (.both g x)
  |none=>some (.prim g)
 |none=>match IT P G s f with
  |some x=>some (.code x)
  |none=>none
variable [Letters]
theorem QD {P : Program} {G : bx} {s : QI} (hn : P.funcs.toList.all (fun fn => !(fn.name == "runtime.NumGoroutine")) = true) (hp : ∀ f g, s.prim f = some g → gW P G f g) : sa P G (NF P G s) := by
 have hc : ∀ f y, IT P G s f = some y → ∃ fn raw, P.funcs[f]? = some fn ∧ IP P G raw fn y ∧ (fn.name == "runtime.NumGoroutine") = false := by
  intro f y hy;obtain⟨fn,h1,h2⟩:=IU hy;refine⟨fn,s.raw f,h1,h2,?_⟩;have hm:fn∈P.funcs.toList:=by
   rw[Array.mem_toList_iff];exact Array.mem_of_getElem? h1
  simpa using List.all_eq_true.mp hn fn hm
 refine⟨fun f x h=>?_,fun f g h=>?_,fun f g x h=>?_,fun f g h=>?_⟩
 all_goals
  unfold NF at h;split at h
  ·rename_i g' hg;split at h
   ·rename_i y hy;first
     |(cases h;done)
     |(simp only[lα,Fn.both.injEq]at h;obtain⟨rfl,rfl⟩:=h;exact⟨hp f _ hg,hc f _ hy⟩)
   ·first
     |(cases h;done)
     |(simp only[lα,Fn.prim.injEq]at h;subst h;exact hp f _ hg)
  ·split at h
   ·rename_i y hy;first
     |(cases h;done)
     |(simp only[lα,Fn.code.injEq]at h;subst h;exact hc f _ hy)
   ·cases h
end Go.Ab
end
section
namespace Go.Ab
open Go
noncomputable section
structure Bx (α:Type) where
 un:α
def hM (l t:Tm):Tm:=Tm.rec (motive:=fun _=>Tm) t (fun s d _ ih=> .cons s d ih) l
def dT:Tm→List Nat
 | .nil=>[]
 | .cons s _ r=>s::dT r
def rN (s:Nat):List Nat→Option Nat
 |[]=>none
 |x::r=>bif Nat.beq x s then some 0 else match rN s r with
  |some j=>some (j+1)
  |none=>none
def Tf (l:Tm):Tm:=Tm.rec (motive:=fun _=>Tm) .nil (fun _ _ r _=>r) l
def Uz (l:Tm):D:=Tm.rec (motive:=fun _=>D) .junk (fun _ d _ _=>d) l
def Gu:Nat→Bx (Tm→D)
 |0=>⟨fun l=>Uz l⟩
 |1=>⟨fun l=>Uz (Tf l)⟩
 |2=>⟨fun l=>Uz (Tf (Tf l))⟩
 |n+3=>⟨fun l=>(Gu n).un (Tf (Tf (Tf l)))⟩
theorem Cg:∀(n:Nat) (l:Tm),(Gu n).un l=Nat.rec (motive:=fun _=>Tm→D) (fun l=>Uz l) (fun _ ih l=>ih (Tf l)) n l
 |0,l=>rfl
 |1,l=>rfl
 |2,l=>rfl
 |n+3,l=>Cg n _
theorem yQ (s:Nat)(t:Tm):∀(l:Tm),get (hM l t) s=match rN s (dT l)with
  |some j=>(Gu j).un l
  |none=>get t s
 | .nil=>rfl
 | .cons x d r=>by
  show(bif Nat.beq x s then d else get (hM r t) s)=_;simp only[dT,rN];cases h:Nat.beq x s
  ·simp only[cond_false];rw[yQ s t r];cases rN s (dT r)with
   |none=>rfl
   |some j=>
    simp only[Cg];rfl
  ·rfl
def Dj (σ:List Nat):A→Bx (Tm→Tm→D)
 | .t n=>match rN n σ with
  |some j=>⟨fun _ l=>(Gu j).un l⟩
  |none=>⟨fun t _=>mD t n⟩
 | .c x=>⟨fun _ _=> .p x⟩
 | .n z=>⟨fun _ _=> .sl .nil z []⟩
 | .f g=>⟨fun _ _=> .p (.fn g [])⟩
 | .g x=>⟨fun _ _=> .ip x 0⟩
theorem t7 (l t:Tm)(a:A):(Dj (dT l) a).un t l=PE (hM l t) a:=by
 cases a<;>try rfl
 rename_i n;show _=mD (hM l t) n;rw[eT,yQ];simp only[Dj];cases rN n (dT l)with
 |none=>simp only[eT]
 |some j=>rfl
abbrev QK:=Bx (Tm→Tm→D)
def rW (as:List QK)(t l:Tm):List D:=List.rec (motive:=fun _=>List D) [] (fun a _ ih=>a.un t l::ih) as
def SW (o:O)(kk:Nat)(as:List QK):Bx (aC→Nat→Tm→Tm→List Ob→KV→R):=
 match o,as with
 | .mv,[a]=>⟨fun _ _ t l hp k=>k (a.un t l) hp⟩
 | .pick,[c,a,b]=>⟨fun _ _ t l hp k=>Nq (c.un t l) (a.un t l) (b.un t l) fun v=>k v hp⟩
 | .bin op,[x,y]=>⟨fun _ _ t l hp k=>OF op (x.un t l) (y.un t l) fun v=>k v hp⟩
 | .un .not,[x]=>⟨fun _ _ t l hp k=>SR (x.un t l) fun v=>k v hp⟩
 | .ia esz,[x,i]=>⟨fun _ _ t l hp k=>Vu esz (x.un t l) (i.un t l) fun v=>k v hp⟩
 | .ix,[x,i]=>⟨fun _ _ t l hp k=>UA (x.un t l) (i.un t l) fun v=>k v hp⟩
 | .fa off,[x]=>⟨fun _ _ t l hp k=>Vs off (x.un t l) fun v=>k v hp⟩
 | .nilck,[x]=>⟨fun _ _ t l hp k=>Nb (x.un t l) fun v=>k v hp⟩
 | .ext i,[x]=>⟨fun _ _ t l hp k=>PH i (x.un t l) fun v=>k v hp⟩
 | .len kd,[x]=>⟨fun _ _ t l hp k=>T0 kd (x.un t l) hp fun v=>k v hp⟩
 | .call f raw,as=>⟨fun call _ t l hp k=>Gm call f raw (rW as t l) hp k⟩
 | .alloc zs,[]=>⟨fun _ base _ _ hp k=>zI base kk zs hp k⟩
 | .box n,[d]=>⟨fun _ base t l hp k=>OM base n kk (d.un t l) hp k⟩
 | .store n,[a,d]=>⟨fun call base t l hp k=>A8 call base n kk (a.un t l) (d.un t l) hp k⟩
 | .slStr lo hi,x::xs=>⟨fun _ _ t l hp k=>A5 lo hi (x.un t l) (rW xs t l) fun v=>k v hp⟩
 | .fld off n agg,[x]=>⟨fun _ _ t l hp k=>Mu off n agg (x.un t l) fun v=>k v hp⟩
 | .build zs ps,vs=>⟨fun _ _ t l hp k=>zO zs ps (rW vs t l) fun v=>k v hp⟩
 | .app esz bytes,[a,b]=>⟨fun call base t l hp k=>Oz call base esz bytes kk (a.un t l) (b.un t l) hp k⟩
 | .load 1 false,[x]=>⟨fun _ _ t l hp k=>MW (x.un t l) hp fun v=>k v hp⟩
 | .load n true,[x]=>⟨fun _ _ t l hp k=>Q8 n true (x.un t l) hp fun v=>k v hp⟩
 |o,as=>⟨fun call base t l hp k=>I1 call base o kk (rW as t l) hp k⟩
theorem Fu (o:O)(kk:Nat)(as:List QK)(call:aC)(base:Nat)(t l:Tm)(hp:List Ob)(k:KV):(SW o kk as).un call base t l hp k=I1 call base o kk (rW as t l) hp k:=by
 unfold SW;split<;>first
  |rfl
  |(
    show _=I1 call base (.load _ true) kk [_] hp k;unfold I1;split<;>simp_all)
def oO (σ:List Nat):List A→List QK
 |[]=>[]
 |a::r=>Dj σ a::oO σ r
theorem qE (t l:Tm):∀as,rW (oO (dT l) as) t l=qa (hM l t) as
 |[]=>rfl
 |a::r=>by
  show(Dj (dT l) a).un t l::rW (oO (dT l) r) t l=PE (hM l t) a::qa (hM l t) r;rw[t7,qE t l r]
def UF (σ:List Nat)(x:dE):Bx (aC→Nat→Tm→Tm→List Ob→KV→R):=
 match x.gd with
 |none=>SW x.op x.k (oO σ x.as)
 |some (g,w)=>⟨fun call base t l hp k=>gG ((Dj σ (.t g)).un t l) w (fun k=>(SW x.op x.k (oO σ x.as)).un call base t l hp k) hp k⟩
theorem Ng (x:dE)(call:aC)(base:Nat)(t l:Tm)(hp:List Ob)(k:KV):(UF (dT l) x).un call base t l hp k=Tn x.gd (hM l t) (fun k=>I1 call base x.op x.k (qa (hM l t) x.as) hp k) hp k:=by
 unfold UF Tn;cases h:x.gd with
 |none=>simp only[Fu,qE]
 |some p=>
  obtain⟨g,w⟩:=p;simp only[Fu,qE,t7];rfl
def Fw (σ:List Nat):List Nat→Bx (Tm→Tm→Tm)
 |[]=>⟨fun _ _=> .nil⟩
 |s::r=>⟨fun t l=> .cons s ((Dj σ (.t s)).un t l) ((Fw σ r).un t l)⟩
theorem AR (t l:Tm):∀out,(Fw (dT l) out).un t l=iS out (hM l t)
 |[]=>rfl
 |s::r=>by
  show Tm.cons s ((Dj (dT l) (.t s)).un t l) ((Fw (dT l) r).un t l)=_;rw[t7,AR t l r];rfl
def Jb (out:List Nat):List Nat→List dE→Bx (aC→Nat→Tm→Tm→List Ob→K→R)
 |σ,[]=>⟨fun _ _ t l hp k=>k ((Fw σ out).un t l) hp⟩
 |σ,x::r=>match x.dst with
  |some d=>⟨fun call base t l hp k=>(UF σ x).un call base t l hp fun v hp=>(Jb out (d::σ) r).un call base t (.cons d v l) hp k⟩
  |none=>⟨fun call base t l hp k=>(UF σ x).un call base t l hp fun _ hp=>(Jb out σ r).un call base t l hp k⟩
theorem t8 (out:List Nat)(call:aC)(base:Nat)(t:Tm)(k:K):∀(ops:List dE) (l:Tm) (hp:List Ob),(Jb out (dT l) ops).un call base t l hp k=Av call base ops (hM l t) hp fun tm hp=>k (iS out tm) hp
 |[],l,hp=>by
  show k ((Fw (dT l) out).un t l) hp=k (iS out (hM l t)) hp;rw[AR]
 |x::r,l,hp=>by
  have step:Av call base (x::r) (hM l t) hp (fun tm hp=>k (iS out tm) hp)=Tn x.gd (hM l t) (fun k=>I1 call base x.op x.k (qa (hM l t) x.as) hp k) hp fun v hp=>Av call base r (put x.dst v (hM l t)) hp fun tm hp=>k (iS out tm) hp:=rfl
  rw[step];unfold Jb;cases hd:x.dst with
  |none=>
   simp only[Ng];congr 1;funext v hp;exact t8 out call base t k r l hp
  |some d=>
   simp only[Ng];congr 1;funext v hp;exact t8 out call base t k r (.cons d v l) hp
structure eE where
 rs:List Nat
 wl:List (Nat×Bool)
 grow:Bool
 lim:Nat
def oV (l:List (Nat×Bool)):List Nat:=List.rec (motive:=fun _=>List Nat) [] (fun p _ ih=>bif p.2 then p.1::ih else ih) l
def bE (f:eE):df:=⟨f.rs,oV f.wl,f.grow,f.lim⟩
def rX (ids:List Nat)(hp:List Ob)(l:List (Nat×Ob)):List (Nat×Bool):=List.rec (motive:=fun _=>List (Nat×Bool)) [] (fun p _ ih=>(p.1,!(sA p.1 ids&&EQ (aN hp p.1) p.2))::ih) l
theorem jz (ids:List Nat)(hp:List Ob):∀l,oV (rX ids hp l)=jy ids hp l
 |[]=>rfl
 |(i,o)::r=>by
  show(bif !(sA i ids&&EQ (aN hp i) o)then i::oV (rX ids hp r)else oV (rX ids hp r))=_;rw[jz ids hp r];simp only[jy];cases sA i ids&&EQ (aN hp i) o<;>rfl
def PT (i:Nat)(l:List (Nat×Bool)):Bool:=List.rec (motive:=fun _=>Bool) false (fun p _ ih=>Bool.rec (motive:=fun _=>Bool) ih (Bool.rec (motive:=fun _=>Bool) ih true p.2) (Nat.beq p.1 i)) l
theorem GM (i:Nat):∀l,PT i l=(oV l).contains i
 |[]=>rfl
 |(j,b)::r=>by
  show Bool.rec (motive:=fun _=>Bool) (PT i r) (Bool.rec (motive:=fun _=>Bool) (PT i r) true b) (Nat.beq j i)=(bif b then j::oV r else oV r).contains i;rw[GM i r];cases b with
  |false=>cases Nat.beq j i<;>rfl
  |true=>
   simp only[cond_true,List.contains_cons];have:(i==j)=Nat.beq j i:=by rw[mβ,beq_iff_eq,Nat.beq_eq];exact eq_comm
   rw[this];cases Nat.beq j i<;>rfl
def JB (a:eE)(i:Nat):Bool:=Bool.rec (motive:=fun _=>Bool) (Bool.rec (motive:=fun _=>Bool) false (Nat.ble a.lim i) a.grow) true (PT i a.wl)
theorem Hx (a:eE)(i:Nat):JB a i=wr (bE a) i:=by
 unfold JB wr bE;rw[GM];cases(oV a.wl).contains i<;>cases a.grow<;>simp
def G3 (a:eE)(l:List Nat):Bool:=List.rec (motive:=fun _=>Bool) true (fun i _ ih=>Bool.rec (motive:=fun _=>Bool) ih false (JB a i)) l
theorem C3 (a:eE):∀l,G3 a l=l.all (fun i=>!wr (bE a) i)
 |[]=>rfl
 |i::r=>by
  show Bool.rec (motive:=fun _=>Bool) (G3 a r) false (JB a i)=_;rw[C3 a r,Hx];simp only[List.all_cons];cases wr (bE a) i<;>rfl
def wg (a:eE)(l:List (Nat×Bool)):Bool:=List.rec (motive:=fun _=>Bool) true (fun p _ ih=>Bool.rec (motive:=fun _=>Bool) ih (Bool.rec (motive:=fun _=>Bool) ih false p.2) (JB a p.1)) l
theorem yJ (a:eE):∀l,wg a l=(oV l).all (fun i=>!wr (bE a) i)
 |[]=>rfl
 |(i,b)::r=>by
  show Bool.rec (motive:=fun _=>Bool) (wg a r) (Bool.rec (motive:=fun _=>Bool) (wg a r) false b) (JB a i)=(bif b then i::oV r else oV r).all _;rw[yJ a r,Hx];cases b with
  |false=>cases wr (bE a) i<;>rfl
  |true=>
   simp only[cond_true,List.all_cons];cases wr (bE a) i<;>rfl
def Ev (a b:eE):Bool:=
 Bool.rec (motive:=fun _=>Bool) false (Bool.rec (motive:=fun _=>Bool) false (Bool.rec (motive:=fun _=>Bool) false (Bool.rec (motive:=fun _=>Bool) false (Bool.rec (motive:=fun _=>Bool) true (Bool.rec (motive:=fun _=>Bool) true false b.grow) a.grow) (wg b a.wl)) (G3 b a.rs)) (wg a b.wl)) (G3 a b.rs)
theorem Ie (a b:eE):Ev a b=jk (bE a) (bE b):=by
 unfold Ev jk;simp only[C3,yJ];show _=((bE b).rs.all _&&(oV b.wl).all _&&(bE a).rs.all _&&(oV a.wl).all _&&!(a.grow&&b.grow));simp only[bE];cases b.rs.all _<;>cases(oV b.wl).all _<;>cases a.rs.all _<;>cases(oV a.wl).all _<;>cases a.grow<;>cases b.grow<;>rfl
def jV (fs:List eE):List (Nat×Nat)→Bool
 |[]=>true
 |(i,j)::r=>match fs[i]?,fs[j]? with
  |some a,some b=>Bool.rec (motive:=fun _=>Bool) false (jV fs r) (Ev a b)
  |_,_=>false
theorem lc (fs:List eE):∀ps,jV fs ps=eg (fs.map bE) ps
 |[]=>rfl
 |(i,j)::r=>by
  simp only[jV,eg,lτ,lc fs r];cases fs[i]? with
  |none=>rfl
  |some a=>
   cases fs[j]? with
   |none=>rfl
   |some b=>
    simp only[Option.map_some,Ie];cases jk (bE a) (bE b)<;>rfl
abbrev KL:=D→List Ob→eE→R
def EI (call:aC)(f:Nat)(raw:Bool)(vs:List D)(hp:List Ob)(k:KL):R:=
 forceNs (eh hp aW (dA vs []) []) fun ids=>
  forceDs (eI (hC ids) (Bool.rec (motive:=fun _=>List D) (vs.map norm) vs raw)) fun args=>forceHb (lx ids hp) fun hp'=>
   caseO (call f args hp') none fun ro=>Prod.rec (motive:=fun _=>R) (fun r out=>oI (Nat.ble ids.length out.length)
    (gf (fS (back ids.length hp.length ids out.length) r) fun v=>forceHb (lC (back ids.length hp.length ids out.length) out) fun out'=>
     forceHb (grow (aj hp (ids.zip out')) (out'.drop ids.length)) fun hp2=>k v hp2 ⟨ids,rX ids hp (ids.zip out'),!(out'.drop ids.length).isEmpty,hp.length⟩) none) ro
theorem Iq (call:aC)(f:Nat)(raw:Bool)(vs:List D)(hp:List Ob){k:KL}{q:KF}(h:∀v hp f,k v hp f=q v hp (bE f)):EI call f raw vs hp k=ye call f raw vs hp q:=by
 unfold EI ye;simp only[h,bE,jz]
def EH (call:aC)(f:Nat)(raw:Bool)(vs:List D)(hp:List Ob)(k:KL):R:=
 yc call f raw vs hp (EI call f raw vs hp k) fun v=>k v hp ⟨[],[],false,hp.length⟩
theorem Ip (call:aC)(f:Nat)(raw:Bool)(vs:List D)(hp:List Ob){k:KL}{q:KF}(h:∀v hp f,k v hp f=q v hp (bE f)):EH call f raw vs hp k=B5 call f raw vs hp q:=by
 unfold EH B5;rw[Iq _ _ _ _ _ h];simp only[h];rfl
def GF (call:aC)(base:Nat)(o:O)(kk:Nat)(vs:List D)(hp:List Ob)(k:KL):R:=
 bif !(cb o)||bV (aN hp (base+kk))then
  match kq call base o kk vs (bg o vs hp) ((bg o vs hp).map (aN hp)) hp.length with
  |none=>none
  |some (v,ups,new)=>k v (grow (aj hp ups) new) ⟨bif cb o then(base+kk)::bg o vs hp else bg o vs hp,rX (bg o vs hp) hp ups,!new.isEmpty,hp.length⟩
 else none
theorem Mw (call:aC)(base:Nat)(o:O)(kk:Nat)(vs:List D)(hp:List Ob){k:KL}{q:KF}(h:∀v hp f,k v hp f=q v hp (bE f)):GF call base o kk vs hp k=Am call base o kk vs hp q:=by
 unfold GF Am;cases !(cb o)||bV (aN hp (base+kk))with
 |false=>rfl
 |true=>
  simp only[cond_true];cases kq call base o kk vs (bg o vs hp) ((bg o vs hp).map (aN hp)) hp.length with
  |none=>rfl
  |some e=>
   obtain⟨v,ups,new⟩:=e;simp only[h,bE,jz]
def Fs (o:O)(kk:Nat)(as:List QK):Bx (aC→Nat→Tm→Tm→List Ob→KL→R):=
 match o with
 | .call f raw=>⟨fun call _ t l hp k=>EH call f raw (rW as t l) hp k⟩
 |o=>match kf o with
  |true=>⟨fun call base t l hp k=>(SW o kk as).un call base t l hp fun v hp'=>k v hp' ⟨bg o (rW as t l) hp,[],false,hp.length⟩⟩
  |false=>⟨fun call base t l hp k=>GF call base o kk (rW as t l) hp k⟩
theorem Ft {o:O}(hs:kf o=true)(kk:Nat)(as:List QK):Fs o kk as=⟨fun call base t l hp k=>(SW o kk as).un call base t l hp fun v hp'=>k v hp' ⟨bg o (rW as t l) hp,[],false,hp.length⟩⟩:=by
 cases o<;>first
  |rfl
  |(cases hs;done)
  |(simp only[Fs,hs])
theorem E5 {call:aC}{base kk:Nat}{o:O}{vs:List D}{hp:List Ob}{q:KF}(hs:kf o=true):th call base o kk vs hp q=I1 call base o kk vs hp fun v hp'=>q v hp' (Q6 o vs hp):=by
 cases o<;>first
  |rfl
  |(cases hs;done)
  |(simp only[th,hs])
theorem Ja {o:O}(hs:kf o=false)(hc:∀f raw,o≠ .call f raw)(kk:Nat)(as:List QK):Fs o kk as=⟨fun call base t l hp k=>GF call base o kk (rW as t l) hp k⟩:=by
 cases o<;>first
  |rfl
  |exact absurd rfl (hc _ _)
  |(cases hs;done)
  |(simp only[Fs,hs])
theorem I2 {call:aC}{base kk:Nat}{o:O}{vs:List D}{hp:List Ob}{q:KF}(hs:kf o=false)(hc:∀f raw,o≠ .call f raw):th call base o kk vs hp q=Am call base o kk vs hp q:=by
 cases o<;>first
  |rfl
  |exact absurd rfl (hc _ _)
  |(cases hs;done)
  |(simp only[th,hs])
theorem G6 (o:O)(kk:Nat)(as:List QK)(call:aC)(base:Nat)(t l:Tm)(hp:List Ob){k:KL}{q:KF}(h:∀v hp f,k v hp f=q v hp (bE f)):(Fs o kk as).un call base t l hp k=th call base o kk (rW as t l) hp q:=by
 by_cases hc:∃f raw,o= .call f raw
 ·obtain⟨f,raw,rfl⟩:=hc;exact Ip _ _ _ _ _ h
 ·have hc:∀f raw,o≠ .call f raw:=fun f raw e=>hc ⟨f,raw,e⟩
  cases hs:kf o with
  |true=>
   rw[Ft hs,E5 hs];show(SW o kk as).un call base t l hp _=_;rw[Fu];congr 1;funext v hp';exact h _ _ _
  |false=>
   rw[Ja hs hc,I2 hs hc];exact Mw _ _ _ _ _ _ h
def Qm (σ:List Nat)(x:dE):Bx (aC→Nat→Tm→Tm→List Ob→KL→R):=
 match x.gd with
 |none=>Fs x.op x.k (oO σ x.as)
 |some (g,w)=>⟨fun call base t l hp k=>As ((Dj σ (.t g)).un t l) w ((Fs x.op x.k (oO σ x.as)).un call base t l hp k) (k (.tup []) hp ⟨[],[],false,0⟩)⟩
theorem G7 (x:dE)(call:aC)(base:Nat)(t l:Tm)(hp:List Ob){k:KL}{q:KF}(hk:∀v hp f,k v hp f=q v hp (bE f)):(Qm (dT l) x).un call base t l hp k=Tl x.gd (hM l t) (fun k=>th call base x.op x.k (qa (hM l t) x.as) hp k) hp q:=by
 unfold Qm Tl;cases h:x.gd with
 |none=>simp only[G6 _ _ _ _ _ _ _ _ hk,qE]
 |some p=>
  obtain⟨g,w⟩:=p;simp only[G6 _ _ _ _ _ _ _ _ hk,qE,t7,hk];rfl
def Dk (out:List Nat):List Nat→List dE→Bx (aC→Nat→Tm→Tm→List Ob→List eE→(Tm→List Ob→List eE→R)→R)
 |σ,[]=>⟨fun _ _ t l hp fs k=>k ((Fw σ out).un t l) hp fs.reverse⟩
 |σ,x::r=>match x.dst with
  |some d=>⟨fun call base t l hp fs k=>(Qm σ x).un call base t l hp fun v hp f=>(Dk out (d::σ) r).un call base t (.cons d v l) hp (f::fs) k⟩
  |none=>⟨fun call base t l hp fs k=>(Qm σ x).un call base t l hp fun _ hp f=>(Dk out σ r).un call base t l hp (f::fs) k⟩
theorem wo (out:List Nat)(call:aC)(base:Nat)(t:Tm){k:Tm→List Ob→List eE→R}{q:Tm→List Ob→List df→R}(hk:∀tm hp fs,k tm hp fs=q tm hp (fs.map bE)):∀(ops:List dE) (l:Tm) (hp:List Ob) (fs:List eE),(Dk out (dT l) ops).un call base t l hp fs k=pU call base ops (hM l t) hp (fs.map bE) fun tm hp fs=>q (iS out tm) hp fs
 |[],l,hp,fs=>by
  show k ((Fw (dT l) out).un t l) hp fs.reverse=q (iS out (hM l t)) hp (fs.map bE).reverse;rw[AR,hk,List.map_reverse]
 |x::r,l,hp,fs=>by
  have step:pU call base (x::r) (hM l t) hp (fs.map bE) (fun tm hp fs=>q (iS out tm) hp fs)=Tl x.gd (hM l t) (fun k=>th call base x.op x.k (qa (hM l t) x.as) hp k) hp fun v hp f=>pU call base r (put x.dst v (hM l t)) hp (f::fs.map bE) fun tm hp fs=>q (iS out tm) hp fs:=rfl
  rw[step];unfold Dk;cases hd:x.dst with
  |none=>
   exact G7 _ _ _ _ _ _ fun v hp f=>wo out call base t hk r l hp (f::fs)
  |some d=>
   exact G7 _ _ _ _ _ _ fun v hp f=>wo out call base t hk r (.cons d v l) hp (f::fs)
def Ud (nal:Nat)(ops:List dE)(prs:Option (List (Nat×Nat)))(out:List Nat):Bx Sem:=
 match prs with
 |none=>match nal with
  |0=>⟨fun c _ _ tm hp kn _ _=>(Jb out [] ops).un c hp.length tm .nil hp kn⟩
  |n+1=>⟨fun c _ _ tm hp kn _ _=>(Jb out [] ops).un c hp.length tm .nil (pP (n+1) hp) kn⟩
 |some ps=>⟨fun c _ _ tm hp kn _ _=>(Dk out [] ops).un c hp.length tm .nil (pP nal hp) [] fun tm hp fs=>oI (jV fs ps) (kn tm hp) none⟩
theorem Qs (nal:Nat)(ops:List dE)(prs:Option (List (Nat×Nat)))(out:List Nat):(Ud nal ops prs out).un=Ue nal ops prs out:=by
 funext c n m tm hp kn ke kr
 cases prs with
 |none=>
  cases nal with
  |zero=>exact t8 out c hp.length tm kn ops .nil hp
  |succ k=>exact t8 out c hp.length tm kn ops .nil (pP (k+1) hp)
 |some ps=>exact wo out c hp.length tm (q:=fun tm hp fs=>oI (eg fs ps) (kn tm hp) none) (fun tm hp fs=>by rw[lc]) ops .nil (pP nal hp) []
def mq:Co→Bx Sem
 | .skip=>⟨Rf⟩
 | .reg nal ops prs out=>Ud nal ops prs out
 | .seq a b=>⟨fun c n m tm hp kn ke kr=>(mq a).un c n m tm hp (fun tm hp=>(mq b).un c n m tm hp kn ke kr) ke kr⟩
 | .cond x t e=>⟨fun c n m tm hp kn ke kr=>Gq (PE tm x) ((mq t).un c n m tm hp kn ke kr) ((mq e).un c n m tm hp kn ke kr)⟩
 | .block id b=>⟨fun c n m tm hp kn ke kr=>(mq b).un c n m tm hp kn (fun i tm hp=>oI (Nat.beq i id) (kn tm hp) (ke i tm hp)) kr⟩
 | .loop live b=>⟨fun c n m tm hp _ ke kr=>yC m live (fun tm hp k=>(mq b).un c n m tm hp k ke kr) n tm hp⟩
 | .exit id=>⟨Q3 id⟩
 | .ret=>⟨Uf⟩
 | .gh g b=>⟨fun c n m tm hp kn ke kr=>Tp m g tm hp fun tm hp=>(mq b).un c n m tm hp kn ke kr⟩
theorem hY:∀c:Co,(mq c).un=LU c
 | .skip=>rfl
 | .reg nal ops prs out=>Qs nal ops prs out
 | .seq a b=>by
  show(fun(c:aC) (n m:Nat) (tm:Tm) (hp:List Ob) (kn:K) (ke:Nat→K) (kr:K)=>(mq a).un c n m tm hp (fun tm hp=>(mq b).un c n m tm hp kn ke kr) ke kr)=_;rw[hY a,hY b];rfl
 | .cond x t e=>by
  show(fun(c:aC) (n m:Nat) (tm:Tm) (hp:List Ob) (kn:K) (ke:Nat→K) (kr:K)=>Gq (PE tm x) ((mq t).un c n m tm hp kn ke kr) ((mq e).un c n m tm hp kn ke kr))=_;rw[hY t,hY e];rfl
 | .block id b=>by
  show(fun(c:aC) (n m:Nat) (tm:Tm) (hp:List Ob) (kn:K) (ke:Nat→K) (kr:K)=>(mq b).un c n m tm hp kn (fun i tm hp=>oI (Nat.beq i id) (kn tm hp) (ke i tm hp)) kr)=_;rw[hY b];rfl
 | .loop live b=>by
  show(fun(c:aC) (n m:Nat) (tm:Tm) (hp:List Ob) (_:K) (ke:Nat→K) (kr:K)=>yC m live (fun tm hp k=>(mq b).un c n m tm hp k ke kr) n tm hp)=_;rw[hY b];rfl
 | .exit _=>rfl
 | .ret=>rfl
 | .gh g b=>by
  show(fun(c:aC) (n m:Nat) (tm:Tm) (hp:List Ob) (kn:K) (ke:Nat→K) (kr:K)=>Tp m g tm hp fun tm hp=>(mq b).un c n m tm hp kn ke kr)=_;rw[hY b];rfl
def TU:Option Fn→Option Hn
 |some (.code x)=>some (.code (mq x.body).un x.res x.fz)
 |some (.prim g)=>some (.prim g)
 |some (.both g x)=>some (.both g (mq x.body).un x.res x.fz)
 |some (.any g)=>some (.any g)
 |none=>none
theorem I0 (o:Option Fn):same (TU o) o:=by
 cases o with
 |none=>trivial
 |some x=>cases x with
  |code x=>exact⟨(hY _).symm,rfl,rfl⟩
  |prim g=>rfl
  |both g x=>exact⟨rfl,(hY _).symm,rfl,rfl⟩
  |any g=>rfl
def Ri (P:Program)(G:bx)(s:QI)(f:Nat):Option Hn:=TU (NF P G s f)
theorem Jx (P:Program)(G:bx)(s:QI)(f:Nat):same (Ri P G s f) (NF P G s f):=I0 _
end
end Go.Ab
end
