import Derived.Test.YtlfhmmbmjkadiaaGreatDoorAm0
import Derived.Test.YtlfhmmbmjkadiaaGreatDoorAm2
import Derived.Lib.ItoaNum
import Derived.KernelRfl
set_option linter.all false
section
namespace Go.Ab
open Go
abbrev R:=Option (D×List Ob)
abbrev K:=Tm→List Ob→R
abbrev KV:=D→List Ob→R
noncomputable section
def sV (tm:Tm)(t:Nat):D:=
 Tm.rec (motive:=fun _=>D) .junk (fun s d _ ih=>Bool.rec (motive:=fun _=>D) ih d (Nat.beq s t)) tm
theorem iu (t:Nat):∀tm,sV tm t=get tm t
 | .nil=>rfl
 | .cons s d r=>by
  show Bool.rec (motive:=fun _=>D) (sV r t) d (Nat.beq s t)=bif Nat.beq s t then d else get r t
  rw[iu t r];cases Nat.beq s t<;>rfl
def evA (tm:Tm)(a:A):D:=
 A.rec (motive:=fun _=>D) (fun n=>sV tm n) (fun x=> .p x) (fun z=> .sl .nil z []) (fun g=> .p (.fn g [])) (fun x=> .ip x 0) a
theorem aac (tm:Tm)(a:A):evA tm a=ev tm a:=by
 cases a
 ·exact iu _ tm
 all_goals rfl
def hU (d:D)(e:R)(k:Da→R):R:=
 D.rec (motive_1:=fun _=>R) (motive_2:=fun _=>PUnit.{1})
  (fun x=>k x) (fun _ _=>e) (fun _ _=>e) (fun _ _=>e) (fun _ _ _=>e) (fun _ _=>e) (fun _ _ _ _=>e) (fun _ _ _=>e) (fun _=>e) (fun _ _ _=>e) (fun _ _ _=>e) e ⟨⟩ (fun _ _ _ _=>⟨⟩) d
def xw (x:Da)(e:R)(k:IntKind→Int→R):R:=
 Da.rec (motive_1:=fun _=>R) (motive_2:=fun _=>PUnit.{1})
  (fun _=>e) (fun i n=>k i n) (fun _=>e) (fun _ _=>e) (fun _ _ _=>e) e (fun _ _=>e) (fun _ _ _ _=>e) e (fun _ _ _=>e) e (fun _ _ _=>e) e (fun _ _ _=>e) (fun _ _=>e) ⟨⟩ (fun _ _ _ _=>⟨⟩) x
def xv (x:Da)(e:R)(t f:R):R:=
 Da.rec (motive_1:=fun _=>R) (motive_2:=fun _=>PUnit.{1})
  (fun b=>Bool.rec (motive:=fun _=>R) f t b) (fun _ _=>e) (fun _=>e) (fun _ _=>e) (fun _ _ _=>e) e (fun _ _=>e) (fun _ _ _ _=>e) e (fun _ _ _=>e) e (fun _ _ _=>e) e (fun _ _ _=>e) (fun _ _=>e) ⟨⟩ (fun _ _ _ _=>⟨⟩) x
def qN (x:Da)(e:R)(k:List Nat→R):R:=
 Da.rec (motive_1:=fun _=>R) (motive_2:=fun _=>PUnit.{1})
  (fun _=>e) (fun _ _=>e) (fun s=>k s) (fun _ _=>e) (fun _ _ _=>e) e (fun _ _=>e) (fun _ _ _ _=>e) e (fun _ _ _=>e) e (fun _ _ _=>e) e (fun _ _ _=>e) (fun _ _=>e) ⟨⟩ (fun _ _ _ _=>⟨⟩) x
def kj (x:Da)(e:R)(k:Nat→List Da→R):R:=
 Da.rec (motive_1:=fun _=>R) (motive_2:=fun _=>PUnit.{1})
  (fun _=>e) (fun _ _=>e) (fun _=>e) (fun _ _=>e) (fun z es _=>k z es) e (fun _ _=>e) (fun _ _ _ _=>e) e (fun _ _ _=>e) e (fun _ _ _=>e) e (fun z es _=>k z es) (fun _ _=>e) ⟨⟩ (fun _ _ _ _=>⟨⟩) x
def caseO {α:Type}(o:Option α)(e:R)(k:α→R):R:=Option.rec (motive:=fun _=>R) e (fun x=>k x) o
def wJ (b:Bool)(t e:R):R:=Bool.rec (motive:=fun _=>R) e t b
theorem iF (b:Bool)(t e:R):wJ b t e=bif b then t else e:=by cases b<;>rfl
def bK (b:Bool)(k:D→R):R:=Bool.rec (motive:=fun _=>R) (k (.p (.bool false))) (k (.p (.bool true))) b
theorem aeC (b:Bool)(k:D→R):bK b k=k (.p (.bool b)):=by cases b<;>rfl
def dE (call:aL)(base:Nat)(o:O)(kk:Nat)(vs:List D)(hp:List Ob)(k:KV):R:=
 bif !(cZ o)||cO (bc hp (base+kk))then
  match qK call base o kk vs (bN o vs hp) ((bN o vs hp).map (bc hp)) hp.length with
  |none=>none
  |some (v,ups,new)=>k v (grow (aA hp ups) new)
 else none
def kc (k:IntKind):Nat:=IntKind.rec (motive:=fun _=>Nat) 0 1 2 3 4 5 6 7 k
theorem aaA:∀i j:IntKind,Nat.beq (kc i) (kc j)=decide (i=j):=by
 intro i j;cases i<;>cases j<;>rfl
def iQ (n:Int)(p q:Nat→R):R:=Int.rec (motive:=fun _=>R) (fun m=>p m) (fun m=>q m) n
def eqK (m n:Int)(k:Bool→R):R:=
 iQ m (fun a=>iQ n (fun b=>k (Nat.beq a b)) fun _=>k false) fun a=>iQ n (fun _=>k false) fun b=>k (Nat.beq a b)
theorem agl (m n:Int)(k:Bool→R):eqK m n k=k (av m n):=by cases m<;>cases n<;>rfl
def ltK (m n:Int)(k:Bool→R):R:=
 iQ m (fun a=>iQ n (fun b=>k (Nat.blt a b)) fun _=>k false) fun a=>iQ n (fun _=>k true) fun b=>k (Nat.blt b a)
theorem agO (m n:Int)(k:Bool→R):ltK m n k=k (aX m n):=by cases m<;>cases n<;>rfl
def lim (i:IntKind):Nat:=IntKind.rec (motive:=fun _=>Nat) 0 0 2147483648 9223372036854775808 256 0 4294967296 18446744073709551616 i
def aaZ (i:IntKind)(m:Nat)(k:D→R):R:=wJ (Nat.blt m (lim i)) (k (.p (.int i (.ofNat m)))) (k (.p (.int i (ag i (.ofNat m)))))
theorem S8 (i:IntKind)(m:Nat)(h:Nat.blt m (lim i)=true):ag i (.ofNat m)= .ofNat m:=by
 cases i<;>simp only[lim]at h;case i8=>exact absurd (Nat.ble_eq.mp h) (by omega)
 case i16=>exact absurd (Nat.ble_eq.mp h) (by omega)
 case u16=>exact absurd (Nat.ble_eq.mp h) (by omega)
 all_goals simp only[ag,h,cond_true]
theorem adO (i:IntKind)(m:Nat)(k:D→R):aaZ i m k=k (.p (.int i (ag i (.ofNat m)))):=by
 unfold aaZ;rw[iF];cases h:Nat.blt m (lim i)
 ·rfl
 ·rw[S8 i m h];rfl
def uw (o:Option Da)(k:D→R):R:=caseO o none fun x=>k (.p x)
def nbK (b:Bool)(k:D→R):R:=Bool.rec (motive:=fun _=>R) (k (.p (.bool true))) (k (.p (.bool false))) b
theorem aa0 (b:Bool)(k:D→R):nbK b k=k (.p (.bool (!b))):=by cases b<;>rfl
def afA (op:BinOp)(i:IntKind)(m n:Int)(e:R)(k:D→R):R:=
 BinOp.rec (motive:=fun _=>R)
  (iQ m (fun a=>iQ n (fun b=>aaZ i (Nat.add a b) k) fun _=>e) fun _=>e)
  (iQ m (fun a=>iQ n (fun b=>wJ (Nat.ble b a) (aaZ i (Nat.sub a b) k) e) fun _=>e) fun _=>e)
  (iQ m (fun a=>iQ n (fun b=>aaZ i (Nat.mul a b) k) fun _=>e) fun _=>e)
  e e e e e e e e
  (eqK m n fun b=>bK b k) (eqK m n fun b=>nbK b k) (ltK m n fun b=>bK b k) (ltK n m fun b=>nbK b k) (ltK n m fun b=>bK b k) (ltK m n fun b=>nbK b k) op
theorem acd (op:BinOp)(i:IntKind)(m n:Int)(k:D→R):afA op i m n (uw (bin op (.p (.int i m)) (.p (.int i n))) k) k=uw (bin op (.p (.int i m)) (.p (.int i n))) k:=by
 cases op<;>simp only[afA,agl,agO,aeC,aa0,adO];case add=>
  cases m<;>cases n<;>try rfl
  simp[iQ,bin,eR,m7,uw,caseO]
 case sub=>
  cases m<;>cases n<;>try rfl
  rename_i a b;simp only[iQ,iF];cases h:Nat.ble b a
  ·rfl
  ·have hle:=Nat.le_of_ble_eq_true h;simp only[cond_true,bin,eR,cond_false,m7,uw,caseO,if_true];congr 4;exact Int.ofNat_sub hle
 case mul=>
  cases m<;>cases n<;>try rfl
  simp[iQ,bin,eR,m7,uw,caseO]
 all_goals simp[bin,eR,m7,uw,caseO,bm]
def RX (a:List Nat):List Nat→Bool:=
 List.rec (motive:=fun _=>List Nat→Bool) (fun b=>List.rec (motive:=fun _=>Bool) true (fun _ _ _=>false) b)
  (fun x _ ih b=>List.rec (motive:=fun _=>Bool) false (fun y r _=>Bool.rec (motive:=fun _=>Bool) false (ih r) (Nat.beq x y)) b) a
theorem Ko:∀a b,RX a b=aN a b
 |[],[]=>rfl
 |[],_::_=>rfl
 |_::_,[]=>rfl
 |x::a,y::b=>by
  show Bool.rec (motive:=fun _=>Bool) false (RX a b) (Nat.beq x y)=bif Nat.beq x y then aN a b else false
  rw[Ko a b];cases Nat.beq x y<;>rfl
def ahC (op:BinOp)(a b:List Nat)(e:R)(k:D→R):R:=
 BinOp.rec (motive:=fun _=>R) e e e e e e e e e e e (bK (RX a b) k) (nbK (RX a b) k) e e e e op
theorem ad6 (op:BinOp)(a b:List Nat)(k:D→R):ahC op a b (uw (bin op (.p (.str a)) (.p (.str b))) k) k=uw (bin op (.p (.str a)) (.p (.str b))) k:=by
 cases op<;>simp only[ahC,aeC,aa0,Ko]<;>simp[bin,vV,uw,caseO]
def ab9 (op:BinOp)(x y:D)(k:D→R):R:=
 hU x none fun a=>Da.rec (motive_1:=fun _=>R) (motive_2:=fun _=>PUnit.{1})
  (fun _=>none) (fun i m=>hU y none fun b=>xw b (uw (bin op x y) k) fun j n=>wJ (Nat.beq (kc i) (kc j)) (afA op i m n (uw (bin op x y) k) k) (uw (bin op x y) k))
  (fun s=>hU y none fun b=>qN b none fun t=>ahC op s t (uw (bin op x y) k) k)
  (fun _ _=>none) (fun _ _ _=>none) none (fun _ _=>none) (fun _ _ _ _=>none) none (fun _ _ _=>none) none (fun _ _ _=>none) none (fun _ _ _=>none) (fun _ _=>uw (bin op x y) k) ⟨⟩ (fun _ _ _ _=>⟨⟩) a
theorem VT (op:BinOp)(a:Da)(y:D)(h:I3 a=none)(hs:∀s,a≠ .str s):bin op (.p a) y=none:=by
 cases y<;>try (cases a<;>rfl)
 rename_i b;cases a<;>simp only[I3,reduceCtorEq]at h<;>first
  |rfl
  |exact absurd rfl (hs _)
theorem aca (op:BinOp)(x y:D)(k:D→R):ab9 op x y k=uw (bin op x y) k:=by
 cases x<;>try rfl
 rename_i a;cases a;case int i m=>
  cases y<;>try rfl
  rename_i b;cases b<;>try rfl
  rename_i j n;show wJ (Nat.beq (kc i) (kc j)) _ _=_;rw[aaA,iF];by_cases h:i=j
  ·subst h;simp only[decide_true,cond_true];exact acd op i m n k
  ·simp[h]
 case str s=>
  cases y<;>try rfl
  rename_i b;cases b<;>try rfl
  exact ad6 op s _ k
 case sym i s=>rfl
 all_goals (rw[VT op _ y rfl (by intro s h;cases h)];rfl)
def abb (c a b:D)(k:D→R):R:=hU c none fun x=>xv x none (k a) (k b)
def agV (d:D)(k:D→R):R:=hU d none fun x=>xv x none (k (.p (.bool false))) (k (.p (.bool true)))
def Pl {α:Type}(l:List α)(i:Nat)(k:α→R):R:=
 List.rec (motive:=fun _=>Nat→R) (fun _=>none) (fun x _ ih i=>Nat.rec (motive:=fun _=>R) (k x) (fun i _=>ih i) i) l i
theorem ym {α:Type}(k:α→R):∀(l:List α) (i:Nat),Pl l i k=caseO l[i]? none k
 |[],i=>by simp[Pl,caseO]
 |x::r,0=>rfl
 |x::r,i+1=>by
  show Pl r i k=_;rw[ym k r i];simp
def tl {α:Type}(l:List α):List α:=List.rec (motive:=fun _=>List α) [] (fun _ t _=>t) l
def tl4 {α:Type}(l:List α):List α:=tl (tl (tl (tl l)))
def aeb {α:Type}(l:List α):List α:=tl4 (tl4 (tl4 (tl4 l)))
def TF {α:Type}(l:List α)(j:Nat):List α:=Nat.rec (motive:=fun _=>List α) l (fun _ ih=>aeb ih) j
theorem abu {α:Type}(l:List α):tl l=l.drop 1:=by cases l<;>rfl
theorem aec {α:Type}(l:List α):aeb l=l.drop 16:=by
 simp only[aeb,tl4,abu,qζ]
theorem ET {α:Type}(l:List α):∀j,TF l j=l.drop (16*j)
 |0=>rfl
 |j+1=>by
  show aeb (TF l j)=_;rw[aec,ET l j,qζ];congr 1
def adl {α:Type}(l:List α)(i:Nat)(k:α→R):R:=Pl (TF l (Nat.div i 16)) (Nat.mod i 16) k
theorem TW {α:Type}(l:List α)(i:Nat)(k:α→R):adl l i k=caseO l[i]? none k:=by
 unfold adl;rw[ym,ET,List.getElem?_drop];congr 2;exact Nat.div_add_mod i 16
def atK (es:List Da)(i:Int)(k:Da→R):R:=iQ i (fun j=>adl es j k) fun _=>none
theorem afx (es:List Da)(i:Int)(k:Da→R):atK es i k=caseO (bx es i) none k:=by
 cases i with
 |ofNat j=>exact TW es j k
 |negSucc j=>rfl
def iaK (esz:Nat)(x i:D)(e:R)(k:D→R):R:=
 hU x e fun x=>kj x none fun z es=>hU i none fun i=>xw i none fun _ i=>wJ (Nat.beq z esz) (atK es i fun y=>k (.ip y 0)) none
def ixK (x i:D)(k:D→R):R:=
 hU x none fun x=>qN x none fun s=>hU i none fun i=>xw i none fun _ i=>iQ i (fun j=>adl s j fun b=>k (.p (.int .u8 (Int.ofNat b)))) fun _=>none
def faK (off:Nat)(d:D)(e:R)(k:D→R):R:=
 D.rec (motive_1:=fun _=>R) (motive_2:=fun _=>PUnit.{1})
  (fun _=>e) (fun _ _=>none) (fun _ _=>none) (fun id o=>k (.box id (o+off))) (fun id i o=>k (.el id i (o+off))) (fun x o=>k (.ip x (o+off)))
  (fun _ _ _ _=>none) (fun _ _ _=>none) (fun _=>none) (fun _ _ _=>none) (fun _ _ _=>none) none ⟨⟩ (fun _ _ _ _=>⟨⟩) d
def aa4 (d:D)(e:R)(k:D→R):R:=
 D.rec (motive_1:=fun _=>R) (motive_2:=fun _=>PUnit.{1})
  (fun _=>e) (fun _ _=>none) (fun _ _=>none) (fun _ _=>k d) (fun _ _ _=>k d) (fun _ _=>k d)
  (fun _ _ _ _=>none) (fun _ _ _=>none) (fun _=>none) (fun _ _ _=>k d) (fun _ _ _=>k d) none ⟨⟩ (fun _ _ _ _=>⟨⟩) d
def oC (o:Ob)(e:R)(k:List D→R):R:=
 Ob.rec (motive:=fun _=>R) (fun cs=>k cs) (fun _=>e) (fun _=>e) (fun _ _=>e) (fun _ _=>e) e e (fun _ _=>e) o
def Ld (d:D)(hp:List Ob)(e:R)(k:D→R):R:=
 D.rec (motive_1:=fun _=>R) (motive_2:=fun _=>PUnit.{1})
  (fun _=>e) (fun _ _=>none) (fun _ _=>none)
  (fun id off=>Pl hp id fun o=>oC o none fun cs=>Pl cs off k)
  (fun _ _ _=>e)
  (fun x off=>Pl (cells x) off fun x=>k (.p x))
  (fun _ _ _ _=>none) (fun _ _ _=>none) (fun _=>none) (fun _ _ _=>none) (fun _ _ _=>none) none ⟨⟩ (fun _ _ _ _=>⟨⟩) d
def adb (i:Nat)(d:D)(k:D→R):R:=
 D.rec (motive_1:=fun _=>R) (motive_2:=fun _=>PUnit.{1})
  (fun _=>none) (fun _ _=>none) (fun ds _=>Pl ds i k) (fun _ _=>none) (fun _ _ _=>none) (fun _ _=>none)
  (fun _ _ _ _=>none) (fun _ _ _=>none) (fun _=>none) (fun _ _ _=>none) (fun _ _ _=>none) none ⟨⟩ (fun _ _ _ _=>⟨⟩) d
def O5 {α:Type}(l:List α):Nat:=List.rec (motive:=fun _=>Nat) 0 (fun _ _ ih=>Nat.succ ih) l
theorem oF {α:Type}:∀l:List α,O5 l=l.length
 |[]=>rfl
 |_::r=>congrArg Nat.succ (oF r)
def A5 (d:D)(k:Nat→R):R:=
 D.rec (motive_1:=fun _=>R) (motive_2:=fun _=>PUnit.{1})
  (fun x=>kj x none fun _ es=>k (O5 es)) (fun _ _=>none) (fun _ _=>none) (fun _ _=>none) (fun _ _ _=>none) (fun _ _=>none) (fun _ _ len _=>k len) (fun _ _ es=>k (O5 es)) (fun _=>none) (fun _ _ _=>none) (fun _ _ _=>none) none ⟨⟩ (fun _ _ _ _=>⟨⟩) d
theorem W5 (d:D)(k:Nat→R):A5 d k=caseO (yO d) none k:=by
 cases d<;>try rfl
 ·rename_i x;cases x<;>try rfl
  ·simp only[A5,hU,kj,oF,yO,caseO]
  ·simp only[A5,hU,kj,oF,yO,caseO]
 ·simp only[A5,oF,yO,caseO]
def ady (n:Nat)(k:D→R):R:=Nat.rec (motive:=fun _=>R) (k (.p (.int .i64 (.ofNat 0)))) (fun m _=>k (.p (.int .i64 (.ofNat (Nat.succ m))))) n
theorem T2 (n:Nat)(k:D→R):ady n k=k (.p (MH n)):=by cases n<;>rfl
def agK (kd:Nat)(d:D)(e:R)(k:D→R):R:=
 Nat.rec (motive:=fun _=>R) (hU d none fun x=>qN x none fun s=>ady (O5 s) k)
  (fun j _=>Nat.rec (motive:=fun _=>R) (A5 d fun n=>ady n k) (fun _ _=>e) j) kd
theorem PE {α:Type}(cs:List α)(off:Nat):sub cs off 1=cs[off]?.map fun x=>[x]:=by
 unfold sub;cases h:Nat.ble (off+1) cs.length
 ·have:cs.length≤off:=by
   rcases lπ off cs.length with h1|h1
   ·rw[Nat.ble_eq.mpr h1]at h;cases h
   ·exact h1
  simp[lθ this]
 ·have h1:off<cs.length:=Nat.ble_eq.mp h;simp[lγ h1,List.take_one,List.head?_drop]
def lJ (o:Option gN)(k:D→R):R:=caseO o none fun e=>k e.1
def pV:O→Bool
 | .mv=>true
 | .pick=>true
 | .build _ _=>true
 | .load _ _=>true
 | .nilck=>true
 | .bin _=>true
 | .binB _=>true
 | .binN _ _=>true
 | .binS _ _=>true
 | .un _=>true
 | .conv _=>true
 | .mkif _=>true
 | .mkfn _=>true
 | .slStr _ _=>true
 | .fa _=>true
 | .fld _ _ _=>true
 | .ia _=>true
 | .iaa _ _=>true
 | .ix=>true
 | .lkp _ _ _=>true
 | .ext _=>true
 | .len _=>true
 | .cap=>true
 | .min2=>true
 | .max2=>true
 | .same=>true
 | .assertT _ _ _=>true
 | .b2s=>true
 | .s2b=>true
 |_=>false
def PN (o:Option gN):Prop:=∀e,o=some e→e.2=([],[])
theorem F1:PN none:=by intro e h;cases h
theorem IT (d:D):PN (val d):=by intro e h;cases h;rfl
theorem SH (o:Option Da):PN (nL o):=by cases o<;>(intro e h;cases h;try rfl)
theorem SG (kt:TypeDesc)(z:D)(ok:Bool)(ks:List Da)(ws:List D)(k:D):PN (aaK kt z ok ks ws k):=by
 unfold aaK;repeat' split
 all_goals first
  |exact F1
  |exact IT _
theorem BM {call:aL}{base kk:Nat}{o:O}{vs:List D}{ids:List Nat}{obs:List Ob}{len:Nat}(h:pV o=true):PN (qK call base o kk vs ids obs len):=by
 cases o<;>simp only[pV,Bool.false_eq_true]at h<;>
  simp only[qK,aMv,H1,vS,iP,vT,GV,Te,Tf,EB,aUn,Tg,Ti,NM,NL,qI,aFa,NI,Th,Yk,aIx,J6,Ry,VL,Yi,NK,NJ,sE,VJ,Yl]<;>
  (repeat' (first|exact F1|exact IT _|exact SH _|exact SG _ _ _ _ _ _|split|(simp only[cond_eq_ite])))
theorem BL {o:O}(h:pV o=true):cZ o=false:=by
 cases o<;>simp_all [pV,cZ]
section eqs
variable {call:aL} {base kk:Nat} {hp:List Ob} {k:KV}
theorem cw {o:O}{vs:List D}(h:pV o=true):dE call base o kk vs hp k=lJ (qK call base o kk vs (bN o vs hp) ((bN o vs hp).map (bc hp)) hp.length) fun v=>k v hp:=by
 have hq:=BM (call:=call) (base:=base) (kk:=kk) (vs:=vs) (ids:=bN o vs hp) (obs:=(bN o vs hp).map (bc hp)) (len:=hp.length) h;simp only[dE,BL h,Bool.not_false,Bool.true_or,cond_true];cases ha:qK call base o kk vs (bN o vs hp) ((bN o vs hp).map (bc hp)) hp.length with
 |none=>rfl
 |some e=>
  obtain⟨v,ups,new⟩:=e;have:=hq _ ha;simp only[lε]at this;obtain⟨rfl,rfl⟩:=this;rfl
theorem Wh {o:Option Da}{k:D→R}:lJ (nL o) k=uw o k:=by cases o<;>rfl
theorem ace (op:BinOp)(x y:D):dE call base (.bin op) kk [x,y] hp k=ab9 op x y fun v=>k v hp:=by
 rw[aca,cw rfl];exact Wh
theorem abe (c a b:D):dE call base .pick kk [c,a,b] hp k=abb c a b fun v=>k v hp:=by
 rw[cw rfl];cases c<;>try rfl
 rename_i x;cases x<;>try rfl
 rename_i b;cases b<;>rfl
theorem adR (x:D):dE call base (.un .not) kk [x] hp k=agV x fun v=>k v hp:=by
 rw[cw rfl];cases x<;>try rfl
 rename_i x;cases x<;>try rfl
 rename_i b;cases b<;>rfl
theorem agx (esz:Nat)(x i:D):dE call base (.ia esz) kk [x,i] hp k=iaK esz x i (lJ (Th esz [x,i]) fun v=>k v hp) fun v=>k v hp:=by
 rw[cw rfl];show lJ (Th esz [x,i]) (fun v=>k v hp)=_;cases x<;>try rfl
 rename_i x;cases x<;>try rfl
 all_goals
  rename_i z es;cases i<;>try rfl
  rename_i i;cases i<;>try rfl
  rename_i q i;simp only[Th,iaK,hU,kj,xw,iF,afx];cases Nat.beq z esz
  ·rfl
  ·simp only[cond_true];cases bx es i<;>rfl
theorem agD (x i:D):dE call base .ix kk [x,i] hp k=ixK x i fun v=>k v hp:=by
 rw[cw rfl];show lJ (aIx [x,i]) (fun v=>k v hp)=_;cases x<;>try rfl
 rename_i x;cases x<;>try rfl
 rename_i s;cases i<;>try rfl
 rename_i i;cases i<;>try rfl
 rename_i q i;simp only[aIx,ixK,hU,qN,xw];cases i with
 |negSucc j=>rfl
 |ofNat j=>
  simp only[iQ,TW];have h:(bif bm 0 (Int.ofNat j)then s[(Int.ofNat j).toNat]? else none)=s[j]?:=rfl;rw[h];cases s[j]?<;>rfl
theorem agq (off:Nat)(x:D):dE call base (.fa off) kk [x] hp k=faK off x (lJ (aFa off [x]) fun v=>k v hp) fun v=>k v hp:=by
 rw[cw rfl];cases x<;>rfl
theorem WN (x:D):dE call base .nilck kk [x] hp k=aa4 x (lJ (vT [x]) fun v=>k v hp) fun v=>k v hp:=by
 rw[cw rfl];cases x<;>rfl
theorem adc (i:Nat)(x:D):dE call base (.ext i) kk [x] hp k=adb i x fun v=>k v hp:=by
 rw[cw rfl];cases x<;>try rfl
 rename_i ds;show lJ (Ry i [.tup ds]) (fun v=>k v hp)=_;simp only[Ry,adb,ym];cases ds[i]?<;>rfl
theorem adz (kd:Nat)(x:D):dE call base (.len kd) kk [x] hp k=agK kd x (lJ (VL kd [x] (bN (.len kd) [x] hp) ((bN (.len kd) [x] hp).map (bc hp))) fun v=>k v hp) fun v=>k v hp:=by
 rw[cw rfl];match kd with
 |0=>
  cases x<;>try rfl
  rename_i x;cases x<;>try rfl
  simp only[agK,hU,qN,T2,oF];rfl
 |1=>
  show lJ (match yO x with|some n=>val (.p (MH n))|none=>none) _=A5 x fun n=>ady n fun v=>k v hp
  simp only[W5,T2];cases yO x<;>rfl
 |n+2=>rfl
theorem WF (x:D):dE call base (.load 1 false) kk [x] hp k=Ld x hp (lJ (iP 1 false [x] ((dids x).map (bc hp))) fun v=>k v hp) fun v=>k v hp:=by
 rw[cw rfl];cases x<;>try rfl
 ·rename_i id off;show lJ (iP 1 false [.box id off] [bc hp id]) (fun v=>k v hp)=_;simp only[Ld,ym,iP,bc,lρ];cases hp[id]? with
  |none=>rfl
  |some o=>
   cases o<;>try rfl
   rename_i cs;simp only[Option.getD_some,PE,caseO,oC];cases cs[off]?<;>rfl
 ·rename_i x off;show lJ (iP 1 false [.ip x off] []) (fun v=>k v hp)=_;simp only[Ld,ym,iP,PE];cases(cells x)[off]?<;>rfl
end eqs
end
end Go.Ab
end
section
namespace Go.Ab
open Go
noncomputable section
def forceN (m:Nat)(k:Nat→R):R:=Nat.rec (motive:=fun _=>R) (k 0) (fun m _=>k (Nat.succ m)) m
theorem mC (m:Nat)(k:Nat→R):forceN m k=k m:=by cases m<;>rfl
def Kx (n:Int)(k:Int→R):R:=iQ n (fun m=>forceN m fun m=>k (.ofNat m)) fun m=>forceN m fun m=>k (.negSucc m)
theorem Io (n:Int)(k:Int→R):Kx n k=k n:=by cases n<;>simp only[Kx,iQ,mC]
def forceNs (l:List Nat)(k:List Nat→R):R:=
 List.rec (motive:=fun _=>(List Nat→R)→R) (fun k=>k []) (fun x _ ih k=>forceN x fun x=>ih fun r=>k (x::r)) l k
theorem nk:∀(l:List Nat) (k:List Nat→R),forceNs l k=k l
 |[],k=>rfl
 |x::r,k=>by
  show forceN x (fun x=>forceNs r fun r=>k (x::r))=_;rw[mC,nk r]
def t8 (x:Da)(k:Da→R):R:=
 Da.rec (motive_1:=fun _=>R) (motive_2:=fun _=>PUnit.{1})
  (fun b=>Bool.rec (motive:=fun _=>R) (k (.bool false)) (k (.bool true)) b) (fun i n=>Kx n fun n=>k (.int i n)) (fun s=>k (.str s)) (fun cs _=>k (.agg cs)) (fun z es _=>k (.slice z es)) (k .nilptr) (fun x _=>k (.ptr x)) (fun ks vs _ _=>k (.map ks vs)) (k .nilmap) (fun f cs _=>k (.fn f cs)) (k .nilfn) (fun t x _=>k (.iface t x)) (k .nilif) (fun z es _=>k (.sliceE z es)) (fun i s=>k (.sym i s)) ⟨⟩ (fun _ _ _ _=>⟨⟩) x
theorem wh (x:Da)(k:Da→R):t8 x k=k x:=by
 cases x<;>try rfl
 ·rename_i b;cases b<;>rfl
 ·simp only[t8,Io]
def iC (d:D)(k:D→R):R:=
 D.rec (motive_1:=fun _=>R) (motive_2:=fun _=>PUnit.{1})
  (fun x=>t8 x fun x=>k (.p x)) (fun cs _=>k (.agg cs)) (fun ds _=>k (.tup ds)) (fun id off=>forceN id fun id=>forceN off fun off=>k (.box id off)) (fun id i off=>forceN id fun id=>forceN i fun i=>forceN off fun off=>k (.el id i off)) (fun x off=>k (.ip x off))
  (fun id lo len z=>forceN id fun id=>forceN lo fun lo=>forceN len fun len=>k (.arr id lo len z)) (fun g z es=>k (.sl g z es)) (fun id=>forceN id fun id=>k (.map id)) (fun f cs _=>k (.fn f cs)) (fun t d _=>k (.iface t d)) (k .junk) ⟨⟩ (fun _ _ _ _=>⟨⟩) d
theorem ko (d:D)(k:D→R):iC d k=k d:=by
 cases d<;>simp only[iC,mC,wh]
def forceTm (tm:Tm)(k:Tm→R):R:=
 Tm.rec (motive:=fun _=>(Tm→R)→R) (fun k=>k .nil) (fun s d _ ih k=>iC d fun d=>ih fun r=>k (.cons s d r)) tm k
theorem wi:∀(tm:Tm) (k:Tm→R),forceTm tm k=k tm
 | .nil,k=>rfl
 | .cons s d r,k=>by
  show iC d (fun d=>forceTm r fun r=>k (.cons s d r))=_;rw[ko,wi r]
def forceDs (ds:List D)(k:List D→R):R:=
 List.rec (motive:=fun _=>(List D→R)→R) (fun k=>k []) (fun d _ ih k=>iC d fun d=>ih fun r=>k (d::r)) ds k
theorem iD:∀(ds:List D) (k:List D→R),forceDs ds k=k ds
 |[],k=>rfl
 |d::r,k=>by
  show iC d (fun d=>forceDs r fun r=>k (d::r))=_;rw[ko,iD r]
def xO (ds:List Da)(k:List Da→R):R:=
 List.rec (motive:=fun _=>(List Da→R)→R) (fun k=>k []) (fun d _ ih k=>t8 d fun d=>ih fun r=>k (d::r)) ds k
theorem qQ:∀(ds:List Da) (k:List Da→R),xO ds k=k ds
 |[],k=>rfl
 |d::r,k=>by
  show t8 d (fun d=>xO r fun r=>k (d::r))=_;rw[wh,qQ r]
def Dd (o:Ob)(k:Ob→R):R:=
 Ob.rec (motive:=fun _=>R) (fun cs=>forceDs cs fun cs=>k (.box cs)) (fun es=>xO es fun es=>k (.arr es)) (fun es=>k (.fz es)) (fun ks vs=>k (.map ks vs)) (fun ks vs=>k (.fzm ks vs)) (k .dead) (k .unborn) (fun ks vs=>forceDs vs fun vs=>k (.mapd ks vs)) o
theorem R3 (o:Ob)(k:Ob→R):Dd o k=k o:=by
 cases o<;>simp only[Dd,iD,qQ]
def t9 (hp:List Ob)(k:List Ob→R):R:=
 List.rec (motive:=fun _=>(List Ob→R)→R) (fun k=>k []) (fun o _ ih k=>Dd o fun o=>ih fun r=>k (o::r)) hp k
theorem nj:∀(hp:List Ob) (k:List Ob→R),t9 hp k=k hp
 |[],k=>rfl
 |o::r,k=>by
  show Dd o (fun o=>t9 r fun r=>k (o::r))=_;rw[R3,nj r]
def Dc (o:Ob)(k:Ob→R):R:=
 Ob.rec (motive:=fun _=>R) (fun cs=>forceDs cs fun cs=>k (.box cs)) (fun es=>k (.arr es)) (fun es=>k (.fz es)) (fun ks vs=>k (.map ks vs)) (fun ks vs=>k (.fzm ks vs)) (k .dead) (k .unborn) (fun ks vs=>forceDs vs fun vs=>k (.mapd ks vs)) o
theorem R2 (o:Ob)(k:Ob→R):Dc o k=k o:=by
 cases o<;>simp only[Dc,iD]
def forceHb (hp:List Ob)(k:List Ob→R):R:=
 List.rec (motive:=fun _=>(List Ob→R)→R) (fun k=>k []) (fun o _ ih k=>Dc o fun o=>ih fun r=>k (o::r)) hp k
theorem ni:∀(hp:List Ob) (k:List Ob→R),forceHb hp k=k hp
 |[],k=>rfl
 |o::r,k=>by
  show Dc o (fun o=>forceHb r fun r=>k (o::r))=_;rw[R2,ni r]
def adK (l:List Nat)(x:Nat):Bool:=List.rec (motive:=fun _=>Bool) false (fun y _ ih=>Bool.rec (motive:=fun _=>Bool) ih true (Nat.beq x y)) l
theorem T9 (x:Nat):∀l,adK l x=l.contains x
 |[]=>rfl
 |y::r=>by
  show Bool.rec (motive:=fun _=>Bool) (adK r x) true (Nat.beq x y)=_;rw[T9 x r,List.contains_cons];have:(x==y)=Nat.beq x y:=by rw[mδ,beq_iff_eq,Nat.beq_eq]
  rw[this];cases Nat.beq x y<;>rfl
def UF (l:List Nat)(x:Nat):List Nat:=List.rec (motive:=fun _=>List Nat) [x] (fun y _ ih=>y::ih) l
theorem Ql (x:Nat):∀l,UF l x=l++[x]
 |[]=>rfl
 |y::r=>by
  show y::UF r x=_;rw[Ql x r];rfl
def ML (hp:List Ob)(i:Nat):Ob:=List.rec (motive:=fun _=>Nat→Ob) (fun _=> .dead) (fun o _ ih i=>Nat.rec (motive:=fun _=>Ob) o (fun i _=>ih i) i) hp i
theorem pi:∀(hp:List Ob) (i:Nat),ML hp i=hp.getD i .dead
 |[],i=>by simp[ML]
 |o::r,0=>rfl
 |o::r,i+1=>by
  show ML r i=_;rw[pi r i];simp
def If (d:D):List Nat→List Nat:=
 D.rec (motive_1:=fun _=>List Nat→List Nat) (motive_2:=fun _=>List Nat→List Nat)
  (fun _ ws=>ws) (fun _ ih ws=>ih ws) (fun _ ih ws=>ih ws) (fun id _ ws=>id::ws) (fun id _ _ ws=>id::ws) (fun _ _ ws=>ws)
  (fun id _ _ _ ws=>id::ws) (fun _ _ _ ws=>ws) (fun id ws=>id::ws) (fun _ _ ih ws=>ih ws) (fun _ _ ih ws=>ih ws) (fun ws=>ws) (fun ws=>ws) (fun _ _ ihd ihr ws=>ihd (ihr ws)) d
def gJ (ds:List D)(ws:List Nat):List Nat:=List.rec (motive:=fun _=>List Nat) ws (fun d _ ih=>If d ih) ds
mutual
theorem xD:∀(d:D) (ws:List Nat),If d ws=dids d++ws
 | .p _,ws=>rfl
 | .agg cs,ws=>xF cs ws
 | .tup cs,ws=>xF cs ws
 | .box _ _,ws=>rfl
 | .el _ _ _,ws=>rfl
 | .ip _ _,ws=>rfl
 | .arr _ _ _ _,ws=>rfl
 | .sl _ _ _,ws=>rfl
 | .map _,ws=>rfl
 | .fn _ cs,ws=>xF cs ws
 | .iface _ d,ws=>xD d ws
 | .junk,ws=>rfl
theorem xF:∀(ds:List D) (ws:List Nat),D.rec_1 (motive_1:=fun _=>List Nat→List Nat) (motive_2:=fun _=>List Nat→List Nat)
  (fun _ ws=>ws) (fun _ ih ws=>ih ws) (fun _ ih ws=>ih ws) (fun id _ ws=>id::ws) (fun id _ _ ws=>id::ws) (fun _ _ ws=>ws)
  (fun id _ _ _ ws=>id::ws) (fun _ _ _ ws=>ws) (fun id ws=>id::ws) (fun _ _ ih ws=>ih ws) (fun _ _ ih ws=>ih ws) (fun ws=>ws) (fun ws=>ws) (fun _ _ ihd ihr ws=>ihd (ihr ws)) ds ws=dids.didsL ds++ws
 |[],ws=>rfl
 |d::r,ws=>by
  show If d (D.rec_1 (motive_1:=fun _=>List Nat→List Nat) (motive_2:=fun _=>List Nat→List Nat) _ _ _ _ _ _ _ _ _ _ _ _ _ _ r ws)=_;rw[xD d,xF r];simp only[dids.didsL,mκ]
end
theorem gu (ws:List Nat):∀ds,gJ ds ws=dids.didsL ds++ws
 |[]=>rfl
 |d::r=>by
  show If d (gJ r ws)=_;rw[xD,gu ws r];simp only[dids.didsL,mκ]
def FH (o:Ob)(ws:List Nat):List Nat:=Ob.rec (motive:=fun _=>List Nat) (fun cs=>gJ cs ws) (fun _=>ws) (fun _=>ws) (fun _ _=>ws) (fun _ _=>ws) ws ws (fun _ vs=>gJ vs ws) o
theorem II (o:Ob)(ws:List Nat):FH o ws=lR o++ws:=by
 cases o<;>first|rfl|exact gu ws _
def iB (hp:List Ob)(n:Nat):List Nat→List Nat→List Nat:=
 Nat.rec (motive:=fun _=>List Nat→List Nat→List Nat) (fun _ acc=>acc)
  (fun _ ih ws acc=>List.rec (motive:=fun _=>List Nat) acc (fun id ws _=>Bool.rec (motive:=fun _=>List Nat) (ih (FH (ML hp id) ws) (UF acc id)) (ih ws acc) (adK acc id)) ws) n
theorem fm (hp:List Ob):∀(n:Nat) (ws acc:List Nat),iB hp n ws acc=cr hp n ws acc
 |0,ws,acc=>rfl
 |n+1,[],acc=>rfl
 |n+1,id::ws,acc=>by
  show Bool.rec (motive:=fun _=>List Nat) (iB hp n (FH (ML hp id) ws) (UF acc id)) (iB hp n ws acc) (adK acc id)=_;rw[fm hp n,fm hp n,T9,Ql,II,pi];simp only[cr];cases acc.contains id<;>simp
def lK (ids:List Nat)(id:Nat):Option Nat:=
 List.rec (motive:=fun _=>Nat→Option Nat) (fun _=>none) (fun x _ ih n=>Bool.rec (motive:=fun _=>Option Nat) (ih (Nat.succ n)) (some n) (Nat.beq x id)) ids 0
theorem mt (ids:List Nat):lK ids=idx ids:=by
 funext id
 have go:∀(l:List Nat) (n:Nat),List.rec (motive:=fun _=>Nat→Option Nat) (fun _=>none) (fun x _ ih n=>Bool.rec (motive:=fun _=>Option Nat) (ih (Nat.succ n)) (some n) (Nat.beq x id)) l n=idx.go id l n:=by
  intro l;induction l with
  |nil=>intro n;rfl
  |cons x r ih=>
   intro n;show Bool.rec (motive:=fun _=>Option Nat) _ (some n) (Nat.beq x id)=bif Nat.beq x id then some n else idx.go id r (n+1)
   rw[←ih (n+1)];cases Nat.beq x id<;>rfl
 exact go ids 0
def jT (σ:Nat→Option Nat)(d:D):D:=
 D.rec (motive_1:=fun _=>D) (motive_2:=fun _=>List D)
  (fun x=> .p x) (fun _ ih=> .agg ih) (fun _ ih=> .tup ih) (fun id off=>Option.rec (motive:=fun _=>D) .junk (fun j=> .box j off) (σ id)) (fun id i off=>Option.rec (motive:=fun _=>D) .junk (fun j=> .el j i off) (σ id)) (fun x off=> .ip x off)
  (fun id lo len z=>Option.rec (motive:=fun _=>D) .junk (fun j=> .arr j lo len z) (σ id)) (fun g z es=> .sl g z es) (fun id=>Option.rec (motive:=fun _=>D) .junk (fun j=> .map j) (σ id)) (fun f _ ih=> .fn f ih) (fun t _ ih=> .iface t ih) .junk [] (fun _ _ ihd ihr=>ihd::ihr) d
def gM (σ:Nat→Option Nat)(ds:List D):List D:=List.rec (motive:=fun _=>List D) [] (fun d _ ih=>jT σ d::ih) ds
mutual
theorem ic (σ:Nat→Option Nat):∀(d:D),jT σ d=mapD σ d
 | .p _=>rfl
 | .agg cs=>by show D.agg _=_;rw[yk σ cs];rfl
 | .tup cs=>by show D.tup _=_;rw[yk σ cs];rfl
 | .box id _=>by simp only[jT,mapD];cases σ id<;>rfl
 | .el id _ _=>by simp only[jT,mapD];cases σ id<;>rfl
 | .ip _ _=>rfl
 | .arr id _ _ _=>by simp only[jT,mapD];cases σ id<;>rfl
 | .sl _ _ _=>rfl
 | .map id=>by simp only[jT,mapD];cases σ id<;>rfl
 | .fn _ cs=>by show D.fn _ _=_;rw[yk σ cs];rfl
 | .iface _ d=>by
  show D.iface _ (jT σ d)=_;rw[ic σ d];rfl
 | .junk=>rfl
theorem yk (σ:Nat→Option Nat):∀(ds:List D),D.rec_1 (motive_1:=fun _=>D) (motive_2:=fun _=>List D)
  (fun x=> .p x) (fun _ ih=> .agg ih) (fun _ ih=> .tup ih) (fun id off=>Option.rec (motive:=fun _=>D) .junk (fun j=> .box j off) (σ id)) (fun id i off=>Option.rec (motive:=fun _=>D) .junk (fun j=> .el j i off) (σ id)) (fun x off=> .ip x off)
  (fun id lo len z=>Option.rec (motive:=fun _=>D) .junk (fun j=> .arr j lo len z) (σ id)) (fun g z es=> .sl g z es) (fun id=>Option.rec (motive:=fun _=>D) .junk (fun j=> .map j) (σ id)) (fun f _ ih=> .fn f ih) (fun t _ ih=> .iface t ih) .junk [] (fun _ _ ihd ihr=>ihd::ihr) ds=mapD.mapDL σ ds
 |[]=>rfl
 |d::r=>by
  show jT σ d::_=_;rw[yk σ r,ic σ d];rfl
end
theorem ku (σ:Nat→Option Nat):∀ds,gM σ ds=mapD.mapDL σ ds
 |[]=>rfl
 |d::r=>by
  show jT σ d::gM σ r=_;rw[ic,ku σ r];rfl
def tg (σ:Nat→Option Nat)(o:Ob):Ob:=Ob.rec (motive:=fun _=>Ob) (fun cs=> .box (gM σ cs)) (fun es=> .arr es) (fun es=> .fz es) (fun ks vs=> .map ks vs) (fun ks vs=> .fzm ks vs) .dead .unborn (fun ks vs=> .mapd ks (gM σ vs)) o
theorem IB (σ:Nat→Option Nat)(o:Ob):tg σ o=ct σ o:=by
 cases o<;>try rfl
 ·simp only[tg,ct,ku]
 ·simp only[tg,ct,ku]
def qY (ids:List Nat)(hp:List Ob):List Ob:=List.rec (motive:=fun _=>List Ob) [] (fun i _ ih=>tg (lK ids) (ML hp i)::ih) ids
theorem nA (ids:List Nat)(hp:List Ob):qY ids hp=cb ids hp:=by
 have go:∀l:List Nat,List.rec (motive:=fun _=>List Ob) [] (fun i _ ih=>tg (lK ids) (ML hp i)::ih) l=l.map fun i=>ct (idx ids) (bc hp i):=by
  intro l;induction l with
  |nil=>rfl
  |cons x r ih=>
   show tg (lK ids) (ML hp x)::_=_;rw[ih,IB,mt,pi];rfl
 exact go ids
def rt (σ:Nat→Option Nat)(hp:List Ob):List Ob:=List.rec (motive:=fun _=>List Ob) [] (fun o _ ih=>tg σ o::ih) hp
theorem pL (σ:Nat→Option Nat):∀hp,rt σ hp=hp.map (ct σ)
 |[]=>rfl
 |o::r=>by
  show tg σ o::rt σ r=_;rw[IB,pL σ r];rfl
def kO (m:Nat)(hp:List Ob):List Nat:=List.rec (motive:=fun _=>Nat→List Nat) (fun _=>[]) (fun o _ ih m=>Nat.rec (motive:=fun _=>List Nat) [] (fun m _=>FH o (ih m)) m) hp m
theorem kw:∀(hp:List Ob) (m:Nat),kO m hp=(hp.take m).flatMap lR
 |[],m=>by simp[kO]
 |o::r,0=>rfl
 |o::r,m+1=>by
  show FH o (kO m r)=_;rw[II,kw r m];simp
def HN (hp:List Ob)(i:Nat)(o:Ob)(k:List Ob→R):R:=
 List.rec (motive:=fun _=>Nat→(List Ob→R)→R) (fun _ k=>k []) (fun x r ih i k=>Nat.rec (motive:=fun _=>R) (k (o::r)) (fun i _=>ih i fun r=>k (x::r)) i) hp i k
theorem yM (o:Ob):∀(hp:List Ob) (i:Nat) (k:List Ob→R),HN hp i o k=k (yN hp i o)
 |[],i,k=>by simp[HN,yN]
 |x::r,0,k=>rfl
 |x::r,i+1,k=>by
  show HN r i o (fun r=>k (x::r))=_;rw[yM o r i];rfl
def unb (o:Ob)(t:R):R:=Ob.rec (motive:=fun _=>R) (fun _=>none) (fun _=>none) (fun _=>none) (fun _ _=>none) (fun _ _=>none) none t (fun _ _=>none) o
theorem S0 (o:Ob)(t:R):unb o t=bif cO o then t else none:=by cases o<;>rfl
def UJ (l:List Nat)(n:Nat)(k:List Nat→R):R:=
 List.rec (motive:=fun _=>Nat→(List Nat→R)→R) (fun _ k=>k []) (fun x _ ih n k=>Nat.rec (motive:=fun _=>R) (k []) (fun n _=>ih n fun r=>k (x::r)) n) l n k
theorem Qn:∀(l:List Nat) (n:Nat) (k:List Nat→R),UJ l n k=k (l.take n)
 |[],n,k=>by simp[UJ]
 |x::r,0,k=>rfl
 |x::r,n+1,k=>by
  show UJ r n (fun r=>k (x::r))=_;rw[Qn r n];rfl
def tlN {α:Type}(l:List α)(n:Nat):List α:=Nat.rec (motive:=fun _=>List α) l (fun _ ih=>tl ih) n
theorem SX {α:Type}(l:List α):∀n,tlN l n=l.drop n
 |0=>rfl
 |n+1=>by
  show tl (tlN l n)=_;rw[abu,SX l n,qζ]
def ZO {α:Type}(l:List α)(n:Nat):List α:=tlN (TF l (Nat.div n 16)) (Nat.mod n 16)
theorem ZP {α:Type}(l:List α)(n:Nat):ZO l n=l.drop n:=by
 unfold ZO;rw[SX,ET,qζ];congr 1;exact Nat.div_add_mod n 16
def okF (d:D):Bool:=
 D.rec (motive_1:=fun _=>Bool) (motive_2:=fun _=>PUnit.{1})
  (fun _=>true) (fun _ _=>false) (fun _ _=>false) (fun _ _=>true) (fun _ _ _=>true) (fun _ _=>true) (fun _ _ _ _=>true) (fun _ _ _=>true) (fun _=>true) (fun _ _ _=>true) (fun _ _ _=>true) false ⟨⟩ (fun _ _ _ _=>⟨⟩) d
theorem agZ (d:D):okF d=dN d:=by cases d<;>rfl
def aai (xs:List D)(n:Nat):Bool:=
 List.rec (motive:=fun _=>Nat→Bool) (fun n=>Nat.rec (motive:=fun _=>Bool) true (fun _ _=>false) n) (fun d _ ih n=>Nat.rec (motive:=fun _=>Bool) false (fun m _=>Bool.rec (motive:=fun _=>Bool) false (ih m) (okF d)) n) xs n
theorem Kw:∀(xs:List D) (n:Nat),aai xs n=(Nat.beq xs.length n&&xs.all dN)
 |[],0=>rfl
 |[],n+1=>rfl
 |d::r,0=>rfl
 |d::r,n+1=>by
  show Bool.rec (motive:=fun _=>Bool) false (aai r n) (okF d)=(Nat.beq r.length n&&(dN d&&r.all dN));rw[Kw r n,agZ];cases dN d<;>simp
def aas {α:Type}(xs:List α)(n:Nat):Bool:=
 List.rec (motive:=fun _=>Nat→Bool) (fun n=>Nat.rec (motive:=fun _=>Bool) true (fun _ _=>false) n) (fun _ _ ih n=>Nat.rec (motive:=fun _=>Bool) true (fun m _=>ih m) n) xs n
theorem De {α:Type}:∀(xs:List α) (n:Nat),aas xs n=Nat.ble n xs.length
 |[],0=>rfl
 |[],n+1=>rfl
 |d::r,0=>rfl
 |d::r,n+1=>De r n
def Um (xs:List D):List D→List D:=List.rec (motive:=fun _=>List D→List D) (fun cs=>cs) (fun x _ ih cs=>x::ih (tl cs)) xs
theorem PH:∀(xs cs:List D),Um xs cs=xs++cs.drop xs.length
 |[],cs=>rfl
 |x::r,cs=>by
  show x::Um r (tl cs)=_;rw[PH r,abu,qζ];simp[Nat.add_comm]
def W8 (cs:List D)(off:Nat)(xs:List D):List D:=
 List.rec (motive:=fun _=>Nat→List D) (fun _=>xs) (fun c r ih off=>Nat.rec (motive:=fun _=>List D) (Um xs (c::r)) (fun o _=>c::ih o) off) cs off
theorem Mx (xs:List D):∀(cs:List D) (off:Nat),W8 cs off xs=splice cs off xs
 |[],off=>by simp[W8,splice]
 |c::r,0=>by
  show Um xs (c::r)=_;rw[PH];simp[splice]
 |c::r,o+1=>by
  show c::W8 r o xs=_;rw[Mx xs r o];simp[splice,Nat.add_right_comm]
def aaS (cs:List Da):List D:=List.rec (motive:=fun _=>List D) [] (fun x _ ih=> .p x::ih) cs
theorem Dh:∀cs,aaS cs=cs.map .p
 |[]=>rfl
 |c::r=>by show D.p c::aaS r=_;rw[Dh r];rfl
def xC (d:D)(k:List D→R):R:=
 D.rec (motive_1:=fun _=>R) (motive_2:=fun _=>PUnit.{1})
  (fun x=>Da.rec (motive_1:=fun _=>R) (motive_2:=fun _=>PUnit.{1})
   (fun _=>k [d]) (fun _ _=>k [d]) (fun _=>k [d]) (fun cs _=>k (aaS cs)) (fun _ _ _=>k [d]) (k [d]) (fun _ _=>k [d]) (fun _ _ _ _=>k [d]) (k [d]) (fun _ _ _=>k [d]) (k [d]) (fun _ _ _=>k [d]) (k [d]) (fun _ _ _=>k [d]) (fun _ _=>k [d]) ⟨⟩ (fun _ _ _ _=>⟨⟩) x)
  (fun ds _=>k ds) (fun _ _=>k [d]) (fun _ _=>k [d]) (fun _ _ _=>k [d]) (fun _ _=>k [d]) (fun _ _ _ _=>k [d]) (fun _ _ _=>k [d]) (fun _=>k [d]) (fun _ _ _=>k [d]) (fun _ _ _=>k [d]) (k [d]) ⟨⟩ (fun _ _ _ _=>⟨⟩) d
theorem ER (d:D)(k:List D→R):xC d k=k (cg d):=by
 cases d<;>try rfl
 rename_i x;cases x<;>try rfl
 simp only[xC,Dh,cg]
def Yp (ds:List D)(e:R)(k:List Da→R):R:=
 List.rec (motive:=fun _=>(List Da→R)→R) (fun k=>k [])
  (fun d _ ih k=>hU d e fun x=>ih fun xs=>k (x::xs)) ds k
theorem NP (e:R):∀(ds:List D) (k:List Da→R),Yp ds e k=match j0 ds with
  |some xs=>k xs
  |none=>e
 |[],k=>rfl
 |d::r,k=>by
  cases d<;>try rfl
  rename_i x;show Yp r e (fun xs=>k (x::xs))=_;rw[NP e r];simp only[j0];cases j0 r<;>rfl
def Lj (ds:List D)(k:D→R):R:=Yp ds (k (.agg ds)) fun xs=>k (.p (.agg xs))
theorem ID (ds:List D)(k:D→R):Lj ds k=k (FC ds):=by
 simp only[Lj,NP,FC];cases j0 ds<;>rfl
def aag (ps:List (Nat×Nat)):List D→List D→(List D→R)→R:=
 List.rec (motive:=fun _=>List D→List D→(List D→R)→R)
  (fun cs ds k=>List.rec (motive:=fun _=>R) (k cs) (fun _ _ _=>none) ds)
  (fun p _ ih cs ds k=>List.rec (motive:=fun _=>R) none (fun d ds _=>xC d fun xs=>wJ (aai xs p.2) (wJ (aas cs (Nat.add p.1 p.2)) (ih (W8 cs p.1 xs) ds k) none) none) ds) ps
theorem Ov:∀(ps:List (Nat×Nat)) (cs ds:List D) (k:List D→R),aag ps cs ds k=caseO (uT cs ps ds) none k
 |[],cs,[],k=>rfl
 |[],cs,d::ds,k=>rfl
 |p::ps,cs,[],k=>rfl
 |(off,n)::ps,cs,d::ds,k=>by
  show xC d (fun xs=>wJ (aai xs n) (wJ (aas cs (Nat.add off n)) (aag ps (W8 cs off xs) ds k) none) none)=_
  simp only[ER,iF,Kw,De,Mx,Ov ps,uT];have:Nat.add off n=off+n:=rfl;rw[this];cases Nat.beq (cg d).length n<;>cases(cg d).all dN<;>cases Nat.ble (off+n) cs.length<;>rfl
def Kb (zs:List D)(ps:List (Nat×Nat))(vs:List D)(k:D→R):R:=aag ps zs vs fun cs=>Lj cs k
def abs {α:Type}(l:List α)(n:Nat)(k:List α→R):R:=
 List.rec (motive:=fun _=>Nat→(List α→R)→R) (fun n k=>Nat.rec (motive:=fun _=>R) (k []) (fun _ _=>none) n) (fun x _ ih n k=>Nat.rec (motive:=fun _=>R) (k []) (fun n _=>ih n fun r=>k (x::r)) n) l n k
theorem Qo {α:Type}:∀(l:List α) (n:Nat) (k:List α→R),abs l n k=bif Nat.ble n l.length then k (l.take n)else none
 |[],0,k=>rfl
 |[],n+1,k=>rfl
 |x::r,0,k=>rfl
 |x::r,n+1,k=>by
  show abs r n (fun r=>k (x::r))=_;rw[Qo r n];rfl
def SW {α:Type}(l:List α)(off n:Nat)(k:List α→R):R:=wJ (aas l off) (abs (tlN l off) n k) none
def wA (agg:Bool)(ds:List D)(k:D→R):R:=Bool.rec (motive:=fun _=>R) (List.rec (motive:=fun _=>R) none (fun d r _=>List.rec (motive:=fun _=>R) (k d) (fun _ _ _=>none) r) ds) (Lj ds k) agg
theorem pR (agg:Bool)(ds:List D)(k:D→R):wA agg ds k=caseO (eD agg ds) none k:=by
 cases agg with
 |true=>simp only[wA,ID,eD,cond_true,caseO]
 |false=>
  match ds with
  |[]=>rfl
  |[d]=>rfl
  |_::_::_=>rfl
def T5 (n:Nat)(agg:Bool)(d:D)(hp:List Ob)(e:R)(k:D→R):R:=
 D.rec (motive_1:=fun _=>R) (motive_2:=fun _=>PUnit.{1})
  (fun _=>e) (fun _ _=>none) (fun _ _=>none)
  (fun id off=>oC (ML hp id) none fun cs=>SW cs off n fun ds=>wA agg ds k)
  (fun _ _ _=>e)
  (fun x off=>SW (cells x) off n fun xs=>wA agg (aaS xs) k)
  (fun _ _ _ _=>none) (fun _ _ _=>none) (fun _=>none) (fun _ _ _=>none) (fun _ _ _=>none) none ⟨⟩ (fun _ _ _ _=>⟨⟩) d
def aaj (off n:Nat)(agg:Bool)(d:D)(k:D→R):R:=
 D.rec (motive_1:=fun _=>R) (motive_2:=fun _=>PUnit.{1})
  (fun x=>Da.rec (motive_1:=fun _=>R) (motive_2:=fun _=>PUnit.{1})
   (fun _=>none) (fun _ _=>none) (fun _=>none) (fun cs _=>SW cs off n fun xs=>wA agg (aaS xs) k) (fun _ _ _=>none) none (fun _ _=>none) (fun _ _ _ _=>none) none (fun _ _ _=>none) none (fun _ _ _=>none) none (fun _ _ _=>none) (fun _ _=>none) ⟨⟩ (fun _ _ _ _=>⟨⟩) x)
  (fun ds _=>SW ds off n fun ds=>wA agg ds k) (fun _ _=>none) (fun _ _=>none) (fun _ _ _=>none) (fun _ _=>none) (fun _ _ _ _=>none) (fun _ _ _=>none) (fun _=>none) (fun _ _ _=>none) (fun _ _ _=>none) none ⟨⟩ (fun _ _ _ _=>⟨⟩) d
def J7 (base kk:Nat)(zs:List D)(hp:List Ob)(k:KV):R:=
 forceN (Nat.add base kk) fun id=>unb (ML hp id) (HN hp id (.box zs) fun hp=>k (.box id 0) hp)
def acj (base:Nat)(n kk:Nat)(d:D)(hp:List Ob)(k:KV):R:=
 forceN (Nat.add base kk) fun id=>unb (ML hp id) (forceDs (cg d) fun cs=>wJ (Nat.beq cs.length n&&cs.all dN) (HN hp id (.box cs) fun hp=>k (.box id 0) hp) none)
def SS (n:Nat)(a d:D)(hp:List Ob)(e:R)(k:KV):R:=
 D.rec (motive_1:=fun _=>R) (motive_2:=fun _=>PUnit.{1})
  (fun _=>none) (fun _ _=>none) (fun _ _=>none)
  (fun id off=>oC (ML hp id) none fun cs=>xC d fun xs=>wJ (aai xs n) (wJ (aas cs (Nat.add off n)) (forceDs (W8 cs off xs) fun cs=>HN hp id (.box cs) fun hp=>k .junk hp) none) none)
  (fun _ _ _=>e) (fun _ _=>none)
  (fun _ _ _ _=>none) (fun _ _ _=>none) (fun _=>none) (fun _ _ _=>none) (fun _ _ _=>none) none ⟨⟩ (fun _ _ _ _=>⟨⟩) a
section eqs
variable {call:aL} {base kk:Nat} {hp:List Ob} {k:KV}
theorem VN (zs:List D):dE call base (.alloc zs) kk [] hp k=J7 base kk zs hp k:=by
 simp only[J7,mC,S0,yM,pi];rfl
theorem ack (n:Nat)(d:D):dE call base (.box n) kk [d] hp k=acj base n kk d hp k:=by
 simp only[acj,mC,S0,yM,pi,iD,iF];show(bif cO (bc hp (base+kk))then match Ye n base kk [d]with
  |none=>none
  |some (v,ups,new)=>k v (grow (aA hp ups) new)else none)=_
 simp only[Ye];have:bc hp (base+kk)=hp.getD (Nat.add base kk) .dead:=rfl;rw[this];cases cO (hp.getD (Nat.add base kk) .dead)
 ·rfl
 ·simp only[cond_true];cases(Nat.beq (cg d).length n&&(cg d).all dN)<;>rfl
theorem Xe (n:Nat)(a d:D):dE call base (.store n) kk [a,d] hp k=SS n a d hp (dE call base (.store n) kk [a,d] hp k) k:=by
 cases a<;>try rfl
 rename_i id off;simp only[SS,yM,pi,iD,iF,ER,Kw,De,Mx];have hn:bN (.store n) [.box id off,d] hp=id::(dids d++[]):=rfl;have hl:gx ((id::(dids d++[])).zip ((id::(dids d++[])).map (bc hp))) id=bc hp id:=by
  simp only[List.map_cons,List.zip_cons_cons,gx,show Nat.beq id id=true from Nat.beq_refl id,cond_true]
 simp only[dE,cZ,Bool.not_false,Bool.true_or,cond_true,qK,qJ,hn,hl];have:bc hp id=hp.getD id .dead:=rfl;rw[this];cases hp.getD id .dead<;>try rfl
 rename_i cs;have h2:Nat.add off n=off+n:=rfl;simp only[oC,h2];cases Nat.beq (cg d).length n<;>cases(cg d).all dN<;>cases Nat.ble (off+n) cs.length<;>rfl
theorem yQ {α:Type}(l:List α)(off n:Nat)(f:List α→R):SW l off n f=caseO (sub l off n) none f:=by
 unfold SW sub;rw[iF,De,SX,Qo,qξ];cases h:Nat.ble (off+n) l.length
 ·cases h1:Nat.ble off l.length
  ·rfl
  ·have:Nat.ble n (l.length - off)=false:=by
    rw[←Bool.not_eq_true,Nat.ble_eq]at h ⊢
    have:=Nat.le_of_ble_eq_true h1;omega
   rw[this];rfl
 ·have:=Nat.le_of_ble_eq_true h;rw[Nat.ble_eq.mpr (by omega:off≤l.length),Nat.ble_eq.mpr (by omega:n≤l.length - off)];rfl
theorem aaO (n:Nat)(agg:Bool)(x:D):dE call base (.load n agg) kk [x] hp k=T5 n agg x hp (lJ (iP n agg [x] ((dids x).map (bc hp))) fun v=>k v hp) fun v=>k v hp:=by
 rw[cw rfl];cases x<;>try rfl
 ·rename_i id off;show lJ (iP n agg [.box id off] [bc hp id]) (fun v=>k v hp)=_;simp only[T5,iP,pi,yQ,pR];have:bc hp id=hp.getD id .dead:=rfl;rw[this];cases hp.getD id .dead<;>try rfl
  rename_i cs;simp only[oC];cases sub cs off n with
  |none=>rfl
  |some ds=>
   simp only[caseO];cases eD agg ds<;>rfl
 ·rename_i x off;show lJ (iP n agg [.ip x off] []) (fun v=>k v hp)=_;simp only[T5,iP,yQ,pR,Dh];cases sub (cells x) off n with
  |none=>rfl
  |some ds=>
   simp only[caseO];cases eD agg (ds.map .p)<;>rfl
theorem ad7 {α β:Type}(f:α→β)(l:List α)(off n:Nat):sub (l.map f) off n=(sub l off n).map (List.map f):=by
 unfold sub;rw[lβ];cases Nat.ble (off+n) l.length
 ·rfl
 ·simp[List.map_drop,List.map_take]
theorem adg (off n:Nat)(agg:Bool)(x:D):dE call base (.fld off n agg) kk [x] hp k=aaj off n agg x fun v=>k v hp:=by
 rw[cw rfl];show lJ (NI off n agg [x]) (fun v=>k v hp)=_;cases x<;>try rfl
 ·rename_i x;cases x<;>try rfl
  rename_i cs;simp only[NI,aaj,yQ,pR,Dh,ad7];cases sub cs off n with
  |none=>rfl
  |some ds=>
   simp only[Option.map_some,caseO];cases eD agg (ds.map .p)<;>rfl
 ·rename_i cs;simp only[NI,aaj,yQ,pR];cases sub cs off n with
  |none=>rfl
  |some ds=>
   simp only[caseO];cases eD agg ds<;>rfl
theorem VV (zs:List D)(ps:List (Nat×Nat))(vs:List D):dE call base (.build zs ps) kk vs hp k=Kb zs ps vs fun v=>k v hp:=by
 rw[cw rfl];show lJ (vS zs ps vs) (fun v=>k v hp)=_;simp only[vS,Kb,Ov,ID];cases uT zs ps vs<;>rfl
end eqs
def ae0 (n:Nat)(agg:Bool)(x:D)(hp:List Ob)(k:D→R):R:=T5 n agg x hp (lJ (iP n agg [x] ((dids x).map (bc hp))) k) k
def My (call:aL)(base n kk:Nat)(a d:D)(hp:List Ob)(k:KV):R:=
 SS n a d hp (dE call base (.store n) kk [a,d] hp fun v hp=>t9 hp fun hp=>k v hp) k
def aan (call:aL)(base:Nat)(o:O)(kk:Nat)(vs:List D)(hp:List Ob)(k:KV):R:=
 dE call base o kk vs hp fun v hp=>iC v fun v=>t9 hp fun hp=>k v hp
theorem KA (call:aL)(base:Nat)(o:O)(kk:Nat)(vs:List D)(hp:List Ob)(k:KV):aan call base o kk vs hp k=dE call base o kk vs hp k:=by
 simp only[aan,ko,nj]
theorem Xb (call:aL)(base n kk:Nat)(a d:D)(hp:List Ob)(k:KV):My call base n kk a d hp k=dE call base (.store n) kk [a,d] hp k:=by
 simp only[My,nj];exact(Xe n a d).symm
def Mu (lo hi:Bool)(x:D)(xs:List D)(k:D→R):R:=
 hU x none fun x=>qN x none fun s=>caseO (cq lo hi false (O5 s) xs) none fun b=>UJ (ZO s b.1) (Nat.sub b.2.1 b.1) fun r=>k (.p (.str r))
theorem W7 {call:aL}{base kk:Nat}{hp:List Ob}{k:KV}(lo hi:Bool)(x:D)(xs:List D):dE call base (.slStr lo hi) kk (x::xs) hp k=Mu lo hi x xs fun v=>k v hp:=by
 rw[cw rfl];show lJ (qI lo hi (x::xs)) (fun v=>k v hp)=_;cases x<;>try rfl
 rename_i x;cases x<;>try rfl
 rename_i s;simp only[qI,Mu,hU,qN,Qn,ZP,oF];cases cq lo hi false s.length xs with
 |none=>rfl
 |some b=>rfl
def C5 (es:List Da)(n:Nat)(ys:List Da)(e:R)(k:List Da→R):R:=
 List.rec (motive:=fun _=>Nat→(List Da→R)→R) (fun n k=>Nat.rec (motive:=fun _=>R) (k ys) (fun _ _=>e) n) (fun x _ ih n k=>Nat.rec (motive:=fun _=>R) (k ys) (fun m _=>ih m fun r=>k (x::r)) n) es n k
theorem EE (ys:List Da)(e:R):∀(es:List Da) (n:Nat) (k:List Da→R),C5 es n ys e k=bif Nat.ble n es.length then k (es.take n++ys)else e
 |[],0,k=>rfl
 |[],n+1,k=>rfl
 |x::r,0,k=>rfl
 |x::r,n+1,k=>by
  show C5 r n ys e (fun r=>k (x::r))=_;rw[EE ys e r];rfl
def Tw (o:Ob)(e:R)(k:List Da→R):R:=
 Ob.rec (motive:=fun _=>R) (fun _=>e) (fun es=>k es) (fun _=>e) (fun _ _=>e) (fun _ _=>e) e e (fun _ _=>e) o
def yK (esz:Nat)(b:D)(e:R)(k:List Da→R):R:=
 D.rec (motive_1:=fun _=>R) (motive_2:=fun _=>PUnit.{1})
  (fun x=>kj x e fun z es=>wJ (Nat.beq z esz) (k es) e) (fun _ _=>e) (fun _ _=>e) (fun _ _=>e) (fun _ _ _=>e) (fun _ _=>e) (fun _ _ _ _=>e) (fun _ z es=>wJ (Nat.beq z esz) (k es) e) (fun _=>e) (fun _ _ _=>e) (fun _ _ _=>e) e ⟨⟩ (fun _ _ _ _=>⟨⟩) b
theorem aiU (esz:Nat)(b:D)(os:List (Nat×Ob))(e:R)(k:List Da→R):yK esz b e k=e∨∃ys,elems esz os b=some ys∧yK esz b e k=k ys:=by
 cases b<;>try exact .inl rfl
 ·rename_i x;cases x<;>try exact .inl rfl
  all_goals
   rename_i z es;simp only[yK,kj,iF,elems,q0,Du];cases Nat.beq z esz
   ·exact .inl rfl
   ·exact .inr ⟨es,rfl,rfl⟩
 ·rename_i g z es;simp only[yK,iF,elems,q0,Du];cases Nat.beq z esz
  ·exact .inl rfl
  ·exact .inr ⟨es,rfl,rfl⟩
def aft (esz bytes base kk:Nat)(a b:D)(hp:List Ob)(e:R)(k:KV):R:=
 D.rec (motive_1:=fun _=>R) (motive_2:=fun _=>PUnit.{1})
  (fun _=>e) (fun _ _=>e) (fun _ _=>e) (fun _ _=>e) (fun _ _ _=>e) (fun _ _=>e)
  (fun id lo len z=>Nat.rec (motive:=fun _=>R) (wJ (Nat.beq z esz) (Tw (ML hp id) e fun es=>yK esz b e fun ys=>C5 es len ys e fun zs=>
   forceN (Nat.add len (O5 ys)) fun l=>wJ (Nat.ble (Nat.mul (Nat.add (Nat.mul 2 l) 192) bytes) 281474976710656) (wJ (Nat.ble (Nat.add (Nat.mul 2 l) 192) 9223372036854775807)
    (forceN (Nat.add base kk) fun i=>unb (ML hp i) (HN hp id .dead fun hp=>HN hp i (.arr zs) fun hp=>k (.arr i 0 l esz) hp)) none) none) e) (fun _ _=>e) lo)
  (fun _ _ _=>e) (fun _=>e) (fun _ _ _=>e) (fun _ _ _=>e) e ⟨⟩ (fun _ _ _ _=>⟨⟩) a
theorem ab7 {call:aL}{base kk:Nat}{hp:List Ob}{k:KV}(esz bytes:Nat)(a b:D):dE call base (.app esz bytes) kk [a,b] hp k=aft esz bytes base kk a b hp (dE call base (.app esz bytes) kk [a,b] hp k) k:=by
 cases a<;>try rfl
 rename_i id lo len z;cases lo with
 |succ lo=>rfl
 |zero=>
  simp only[aft,iF];cases hz:Nat.beq z esz
  ·rfl
  ·have ho:bc hp id=ML hp id:=(pi hp id).symm;cases hob:ML hp id<;>try rfl
   rename_i es;simp only[cond_true,Tw];have hn:bN (.app esz bytes) [.arr id 0 len z,b] hp=id::(dids b++[]):=rfl;have hl:gx ((id::(dids b++[])).zip ((id::(dids b++[])).map (bc hp))) id= .arr es:=by
    simp only[List.map_cons,List.zip_cons_cons,gx,show Nat.beq id id=true from Nat.beq_refl id,cond_true,ho,hob]
   rcases aiU esz b ((id::(dids b++[])).zip ((id::(dids b++[])).map (bc hp))) (dE call base (.app esz bytes) kk [.arr id 0 len z,b] hp k) (fun ys=>C5 es len ys (dE call base (.app esz bytes) kk [.arr id 0 len z,b] hp k) fun zs=>
   forceN (Nat.add len (O5 ys)) fun l=>bif Nat.ble (Nat.mul (Nat.add (Nat.mul 2 l) 192) bytes) 281474976710656 then bif Nat.ble (Nat.add (Nat.mul 2 l) 192) 9223372036854775807 then
    (forceN (Nat.add base kk) fun i=>unb (ML hp i) (HN hp id .dead fun hp=>HN hp i (.arr zs) fun hp=>k (.arr i 0 l esz) hp))else none else none)with hy|⟨ys,hy1,hy2⟩
   ·exact hy.symm
   ·rw[hy2,EE];cases hle:Nat.ble len es.length
    ·rfl
    ·have hle':=Nat.le_of_ble_eq_true hle;have hlen:(es.take len).length=len:=by simp[hle']
     simp only[cond_true,mC,yM,S0,pi,oF];simp only[dE,cZ,Bool.not_true,Bool.false_or,qK,rH,hn,oB,hl,hz,cond_true,List.drop_zero,hy1,hlen,List.isEmpty_cons,Bool.false_and,cond_false];have e1:bc hp (base+kk)=hp.getD (Nat.add base kk) .dead:=rfl;rw[e1];have e2:(2*(len+ys.length)+192)*bytes=Nat.mul (Nat.add (Nat.mul 2 (Nat.add len ys.length)) 192) bytes:=rfl;have e3:2*(len+ys.length)+192=Nat.add (Nat.mul 2 (Nat.add len ys.length)) 192:=rfl;rw[e2,e3];cases cO (hp.getD (Nat.add base kk) .dead)<;>cases Nat.ble (Nat.mul (Nat.add (Nat.mul 2 (Nat.add len ys.length)) 192) bytes) 281474976710656<;>cases Nat.ble (Nat.add (Nat.mul 2 (Nat.add len ys.length)) 192) 9223372036854775807<;>rfl
def ab3 (call:aL)(base esz bytes kk:Nat)(a b:D)(hp:List Ob)(k:KV):R:=
 aft esz bytes base kk a b hp (aan call base (.app esz bytes) kk [a,b] hp k) k
theorem ab4 (call:aL)(base esz bytes kk:Nat)(a b:D)(hp:List Ob)(k:KV):ab3 call base esz bytes kk a b hp k=dE call base (.app esz bytes) kk [a,b] hp k:=by
 unfold ab3;rw[KA];exact(ab7 esz bytes a b).symm
def Y2 (esz:Nat)(d:D)(e:R)(k:D→R):R:=hU d e fun x=>wJ (Nat.beq (O5 (cells x)) esz) (k (.sl .exact esz [x])) none
theorem Y3 {call:aL}{base kk:Nat}{hp:List Ob}{k:KV}(esz:Nat)(z:Da)(d:D):dE call base (.bsl esz z 1 [0]) kk [d] hp k=Y2 esz d (dE call base (.bsl esz z 1 [0]) kk [d] hp k) fun v=>k v hp:=by
 cases d<;>try rfl
 rename_i x;simp only[Y2,hU,iF,oF];have:dE call base (.bsl esz z 1 [0]) kk [.p x] hp k=match VK esz z 1 [0] [.p x] [] []with
  |none=>none
  |some (v,ups,new)=>k v (grow (aA hp ups) new):=rfl
 rw[this];simp only[VK,pur.purL,pur,List.all_cons,List.all_nil,Bool.and_true];cases Nat.beq (cells x).length esz
 ·rfl
 ·rfl
def Y0 (call:aL)(base esz:Nat)(z:Da)(kk:Nat)(d:D)(hp:List Ob)(k:KV):R:=Y2 esz d (aan call base (.bsl esz z 1 [0]) kk [d] hp k) fun v=>k v hp
theorem Y1 (call:aL)(base esz:Nat)(z:Da)(kk:Nat)(d:D)(hp:List Ob)(k:KV):Y0 call base esz z kk d hp k=dE call base (.bsl esz z 1 [0]) kk [d] hp k:=by
 unfold Y0;rw[KA];exact(Y3 esz z d).symm
def sT (d:D)(k:D→R):R:=
 D.rec (motive_1:=fun _=>R) (motive_2:=fun _=>PUnit.{1})
  (fun x=>Da.rec (motive_1:=fun _=>R) (motive_2:=fun _=>PUnit.{1})
   (fun b=>Bool.rec (motive:=fun _=>R) (k (.p (.bool false))) (k (.p (.bool true))) b) (fun i n=>Kx n fun n=>k (.p (.int i n))) (fun s=>forceNs s fun s=>k (.p (.str s))) (fun cs _=>xO cs fun cs=>k (.p (.agg cs))) (fun z es _=>xO es fun es=>k (.p (.slice z es))) (k d) (fun _ _=>k d) (fun _ _ _ _=>k d) (k d) (fun _ _ _=>k d) (k d) (fun _ _ _=>k d) (k d) (fun _ _ _=>k d) (fun _ _=>k d) ⟨⟩ (fun _ _ _ _=>⟨⟩) x)
  (fun cs _=>k (.agg cs)) (fun ds _=>forceDs ds fun ds=>k (.tup ds)) (fun _ _=>iC d k) (fun _ _ _=>iC d k) (fun _ _=>k d)
  (fun _ _ _ _=>iC d k) (fun _ _ _=>k d) (fun _=>iC d k) (fun _ _ _=>k d) (fun _ _ _=>k d) (k d) ⟨⟩ (fun _ _ _ _=>⟨⟩) d
theorem Wv (d:D)(k:D→R):sT d k=k d:=by
 cases d<;>(try rfl)<;>(try (simp only[sT,ko];done))
 ·rename_i x;cases x<;>try rfl
  ·rename_i b;cases b<;>rfl
  ·simp only[sT,Io]
  ·simp only[sT,nk]
  ·simp only[sT,qQ]
  ·simp only[sT,qQ]
 ·simp only[sT,iD]
end
end Go.Ab
end
section
namespace Go.Ab
open Go
noncomputable section
def tu (vs:List D)(e:R)(k:List D→R):R:=
 List.rec (motive:=fun _=>(List D→R)→R) (fun k=>k [])
  (fun d _ ih k=>D.rec (motive_1:=fun _=>R) (motive_2:=fun _=>PUnit.{1})
   (fun x=>ih fun xs=>k (.p x::xs)) (fun _ _=>e) (fun _ _=>e) (fun _ _=>e) (fun _ _ _=>e) (fun _ _=>e) (fun _ _ _ _=>e) (fun _ _ _=>e) (fun _=>e) (fun _ _ _=>e) (fun _ _ _=>e) e ⟨⟩ (fun _ _ _ _=>⟨⟩) d) vs k
def Us (r:D)(e:R)(k:D→R):R:=
 D.rec (motive_1:=fun _=>R) (motive_2:=fun _=>PUnit.{1})
  (fun x=>k (.p x)) (fun _ _=>e) (fun ds _=>tu ds e fun ds=>k (.tup ds)) (fun _ _=>e) (fun _ _ _=>e) (fun _ _=>e) (fun _ _ _ _=>e) (fun _ _ _=>e) (fun _=>e) (fun _ _ _=>e) (fun _ _ _=>e) e ⟨⟩ (fun _ _ _ _=>⟨⟩) r
def QE:D→Bool
 | .p _=>true
 |_=>false
theorem lA (e:R):∀(vs:List D) (k:List D→R),tu vs e k=bif vs.all QE then k vs else e
 |[],k=>rfl
 |d::r,k=>by
  cases d<;>try rfl
  rename_i x;show tu r e (fun xs=>k (.p x::xs))=_;rw[lA e r];rfl
def FY:D→Bool
 | .p _=>true
 | .tup ds=>ds.all QE
 |_=>false
theorem FZ (r:D)(e:R)(k:D→R):Us r e k=bif FY r then k r else e:=by
 cases r<;>try rfl
 exact lA _ _ _
theorem t4:∀{vs:List D},vs.all QE=true→dids.didsL vs=[]
 |[],_=>rfl
 |d::r,h=>by
  simp only[List.all_cons,lδ]at h;cases d<;>simp only[QE,Bool.false_eq_true,false_and]at h;simp only[dids.didsL,dids,t4 h.2,mε]
theorem AN (σ:Nat→Option Nat):∀{vs:List D},vs.all QE=true→mapD.mapDL σ vs=vs
 |[],_=>rfl
 |d::r,h=>by
  simp only[List.all_cons,lδ]at h;cases d<;>simp only[QE,Bool.false_eq_true,false_and]at h;simp only[mapD.mapDL,mapD,AN σ h.2]
theorem AO (σ:Nat→Option Nat){d:D}(h:FY d=true):mapD σ d=d:=by
 cases d<;>simp only[FY,Bool.false_eq_true]at h
 ·rfl
 ·simp only[mapD,AN σ h]
theorem AR:∀{vs:List D},vs.all QE=true→vs.map norm=vs
 |[],_=>rfl
 |d::r,h=>by
  simp only[List.all_cons,lδ]at h;cases d<;>simp only[QE,Bool.false_eq_true,false_and]at h;simp only[List.map_cons,norm,AR h.2]
def Zu (call:aL)(f:Nat)(args:List D)(e:R)(k:D→R):R:=
 caseO (call f args []) none fun ro=>Prod.rec (motive:=fun _=>R) (fun r out=>List.rec (motive:=fun _=>R) (Us r e k) (fun _ _ _=>e) out) ro
def Ib (call:aL)(f:Nat)(raw:Bool)(vs:List D)(hp:List Ob)(e:R)(k:D→R):R:=
 tu vs e fun vs=>Zu call f vs e k
theorem By {call:aL}{f:Nat}{vs:List D}{len:Nat}(h:vs.all QE=true):eP call f vs [] [] len=match call f vs []with
  |none=>none
  |some (r,out)=>some (mapD (back 0 len [] out.length) r,[],out.map (ct (back 0 len [] out.length))):=by
 unfold eP;rw[AN _ h];show(match call f vs []with|none=>none|some (r,out)=>_)=_;cases call f vs []with
 |none=>rfl
 |some p=>obtain⟨r,out⟩:=p;simp[Nat.ble]
abbrev KF:=D→List Ob→ew→R
section eqs
variable {call:aL} {base kk:Nat} {hp:List Ob} {k:KV}
theorem tZ (hp:List Ob)(n:Nat)(acc:List Nat):cr hp n [] acc=acc:=by cases n<;>rfl
theorem V4 {f:Nat}{raw:Bool}{vs:List D}(h:vs.all QE=true):dE call base (.call f raw) kk vs hp k=match call f vs []with
  |none=>none
  |some (r,out)=>k (mapD (back 0 hp.length [] out.length) r) (grow hp (out.map (ct (back 0 hp.length [] out.length)))):=by
 have hn:bN (.call f raw) vs hp=[]:=by simp only[bN,t4 h,tZ]
 have ha:(bif raw then vs else vs.map norm)=vs:=by cases raw<;>simp[AR h]
 simp only[dE,cZ,Bool.not_false,Bool.true_or,cond_true,hn,List.map_nil,qK,ha,By h];cases call f vs []with
 |none=>rfl
 |some p=>rfl
theorem Zv (f:Nat)(raw:Bool)(vs:List D):dE call base (.call f raw) kk vs hp k=Ib call f raw vs hp (dE call base (.call f raw) kk vs hp k) fun v=>k v hp:=by
 unfold Ib;rw[lA];cases h:vs.all QE
 ·rfl
 ·rw[cond_true,V4 h];unfold Zu;cases hc:call f vs []with
  |none=>rfl
  |some p=>
   obtain⟨r,out⟩:=p;cases out with
   |cons o out=>rfl
   |nil=>
    simp only[caseO,FZ];cases hr:FY r
    ·rfl
    ·simp only[cond_true,List.length_nil,List.map_nil];rw[AO _ hr];rfl
end eqs
def Ic (call:aL)(f:Nat)(raw:Bool)(vs:List D)(hp:List Ob)(k:KF):R:=
 forceNs (iB hp bu (gJ vs []) []) fun ids=>
  forceDs (gM (lK ids) (Bool.rec (motive:=fun _=>List D) (vs.map norm) vs raw)) fun args=>forceHb (qY ids hp) fun hp'=>
   caseO (call f args hp') none fun ro=>Prod.rec (motive:=fun _=>R) (fun r out=>wJ (Nat.ble ids.length out.length)
    (iC (jT (back ids.length hp.length ids out.length) r) fun v=>forceHb (rt (back ids.length hp.length ids out.length) out) fun out'=>
     forceHb (grow (aA hp (ids.zip out')) (out'.drop ids.length)) fun hp2=>k v hp2 ⟨ids,oO ids hp (ids.zip out'),!(out'.drop ids.length).isEmpty,hp.length⟩) none) ro
theorem N3 {call:aL}{base kk:Nat}{hp:List Ob}{k:KF}(f:Nat)(raw:Bool)(vs:List D):Ic call f raw vs hp k=bif !(cZ (.call f raw))||cO (bc hp (base+kk))then
  match qK call base (.call f raw) kk vs (bN (.call f raw) vs hp) ((bN (.call f raw) vs hp).map (bc hp)) hp.length with
  |none=>none
  |some (v,ups,new)=>k v (grow (aA hp ups) new) ⟨bif cZ (.call f raw)then(base+kk)::bN (.call f raw) vs hp else bN (.call f raw) vs hp,oO (bN (.call f raw) vs hp) hp ups,!new.isEmpty,hp.length⟩
 else none:=by
 have hn:bN (.call f raw) vs hp=cr hp bu (dids.didsL vs) []:=rfl;simp only[Ic,nk,iD,ni,ko,fm,gu,mε,ku,mt,nA,ic,pL,iF,cZ,Bool.not_false,Bool.true_or,cond_true,cond_false,qK,eP,hn];have e:(List.map (ct (idx (cr hp bu (dids.didsL vs) []))) (List.map (bc hp) (cr hp bu (dids.didsL vs) [])))=cb (cr hp bu (dids.didsL vs) []) hp:=by
  simp only[cb,List.map_map];rfl
 have e2:(bif raw then vs else List.map norm vs)=Bool.rec (motive:=fun _=>List D) (vs.map norm) vs raw:=by cases raw<;>rfl
 rw[e,e2];cases call f (mapD.mapDL (idx (cr hp bu (dids.didsL vs) [])) (Bool.rec (motive:=fun _=>List D) (vs.map norm) vs raw)) (cb (cr hp bu (dids.didsL vs) []) hp)with
 |none=>rfl
 |some p=>
  obtain⟨r,out⟩:=p;simp only[caseO];cases Nat.ble (cr hp bu (dids.didsL vs) []).length out.length<;>rfl
def Tu (call:aL)(f:Nat)(raw:Bool)(vs:List D)(hp:List Ob)(k:KV):R:=
 Ib call f raw vs hp (Ic call f raw vs hp fun v hp _=>k v hp) fun v=>k v hp
theorem Zs {call:aL}{base kk:Nat}{hp:List Ob}{k:KV}(f:Nat)(raw:Bool)(vs:List D):dE call base (.call f raw) kk vs hp k=Tu call f raw vs hp k:=by
 rw[Zv];unfold Tu;rw[N3 (base:=base) (kk:=kk)];rfl
def iaG (esz:Nat)(x i:D)(k:D→R):R:=iaK esz x i (lJ (Th esz [x,i]) k) k
def faG (off:Nat)(x:D)(k:D→R):R:=faK off x (lJ (aFa off [x]) k) k
def aa3 (x:D)(k:D→R):R:=aa4 x (lJ (vT [x]) k) k
def ain (kd:Nat)(x:D)(hp:List Ob)(k:D→R):R:=agK kd x (lJ (VL kd [x] (bN (.len kd) [x] hp) ((bN (.len kd) [x] hp).map (bc hp))) k) k
def aaL (x:D)(hp:List Ob)(k:D→R):R:=Ld x hp (lJ (iP 1 false [x] ((dids x).map (bc hp))) k) k
def aeP (o:O)(vs:List D)(hp:List Ob):ew:=⟨bN o vs hp,[],false,hp.length⟩
def ah8 (hp:List Ob):ew:=⟨[],[],false,hp.length⟩
def Wy (call:aL)(base:Nat)(o:O)(kk:Nat)(vs:List D)(hp:List Ob)(k:KV):R:=
 match o,vs with
 | .mv,[a]=>k a hp
 | .pick,[c,a,b]=>abb c a b fun v=>k v hp
 | .bin op,[x,y]=>ab9 op x y fun v=>k v hp
 | .un .not,[x]=>agV x fun v=>k v hp
 | .ia esz,[x,i]=>iaG esz x i fun v=>k v hp
 | .ix,[x,i]=>ixK x i fun v=>k v hp
 | .fa off,[x]=>faG off x fun v=>k v hp
 | .nilck,[x]=>aa3 x fun v=>k v hp
 | .ext i,[x]=>adb i x fun v=>k v hp
 | .len kd,[x]=>ain kd x hp fun v=>k v hp
 | .load 1 false,[x]=>aaL x hp fun v=>k v hp
 | .call f raw,vs=>Tu call f raw vs hp k
 | .alloc zs,[]=>J7 base kk zs hp k
 | .box n,[d]=>acj base n kk d hp k
 | .store n,[a,d]=>My call base n kk a d hp k
 | .slStr lo hi,x::xs=>Mu lo hi x xs fun v=>k v hp
 | .load n agg,[x]=>ae0 n agg x hp fun v=>k v hp
 | .fld off n agg,[x]=>aaj off n agg x fun v=>k v hp
 | .build zs ps,vs=>Kb zs ps vs fun v=>k v hp
 | .app esz bytes,[a,b]=>ab3 call base esz bytes kk a b hp k
 | .bsl esz z 1 [0],[d]=>Y0 call base esz z kk d hp k
 |o,vs=>match pV o with
  |true=>dE call base o kk vs hp k
  |false=>aan call base o kk vs hp k
theorem aaz (call:aL)(base:Nat)(o:O)(kk:Nat)(vs:List D)(hp:List Ob)(k:KV):Wy call base o kk vs hp k=dE call base o kk vs hp k:=by
 unfold Wy;split
 ·rfl
 ·exact(abe _ _ _).symm
 ·exact(ace _ _ _).symm
 ·exact(adR _).symm
 ·exact(agx _ _ _).symm
 ·exact(agD _ _).symm
 ·exact(agq _ _).symm
 ·exact(WN _).symm
 ·exact(adc _ _).symm
 ·exact(adz _ _).symm
 ·exact(WF _).symm
 ·exact(Zs _ _ _).symm
 ·exact(VN _).symm
 ·exact(ack _ _).symm
 ·exact Xb _ _ _ _ _ _ _ _
 ·exact(W7 _ _ _ _).symm
 ·exact(aaO _ _ _).symm
 ·exact(adg _ _ _ _).symm
 ·exact(VV _ _ _).symm
 ·exact ab4 _ _ _ _ _ _ _ _ _
 ·exact Y1 _ _ _ _ _ _ _ _
 ·split
  ·rfl
  ·exact KA _ _ _ _ _ _ _
def Kz (call:aL)(base:Nat)(o:O)(kk:Nat)(vs:List D)(hp:List Ob)(k:KF):R:=
 bif !(cZ o)||cO (bc hp (base+kk))then
  match qK call base o kk vs (bN o vs hp) ((bN o vs hp).map (bc hp)) hp.length with
  |none=>none
  |some (v,ups,new)=>k v (grow (aA hp ups) new) ⟨bif cZ o then(base+kk)::bN o vs hp else bN o vs hp,oO (bN o vs hp) hp ups,!new.isEmpty,hp.length⟩
 else none
def NZ (call:aL)(f:Nat)(raw:Bool)(vs:List D)(hp:List Ob)(k:KF):R:=
 Ib call f raw vs hp (Ic call f raw vs hp k) fun v=>k v hp (ah8 hp)
theorem Zr {call:aL}{base kk:Nat}{hp:List Ob}{k:KF}(f:Nat)(raw:Bool)(vs:List D):Kz call base (.call f raw) kk vs hp k=NZ call f raw vs hp k:=by
 unfold NZ Ib;rw[lA,N3 (base:=base) (kk:=kk)];cases h:vs.all QE
 ·rfl
 ·have hn:bN (.call f raw) vs hp=[]:=by simp only[bN,t4 h,tZ]
  have ha:(bif raw then vs else vs.map norm)=vs:=by cases raw<;>simp[AR h]
  rw[cond_true];simp only[Kz,cZ,Bool.not_false,Bool.true_or,cond_true,cond_false,hn,List.map_nil,qK,ha,By h];unfold Zu;cases hc:call f vs []with
  |none=>rfl
  |some p=>
   obtain⟨r,out⟩:=p;cases out with
   |cons o out=>rfl
   |nil=>
    simp only[caseO,FZ];cases hr:FY r
    ·rfl
    ·simp only[cond_true,List.length_nil,List.map_nil];rw[AO _ hr];rfl
def Cm (call:aL)(base:Nat)(o:O)(kk:Nat)(vs:List D)(hp:List Ob)(k:KF):R:=
 match o with
 | .call f raw=>NZ call f raw vs hp k
 |o=>match pV o with
  |true=>Wy call base o kk vs hp fun v hp'=>k v hp' (aeP o vs hp)
  |false=>Kz call base o kk vs hp k
theorem ads (call:aL)(base:Nat)(o:O)(kk:Nat)(vs:List D)(hp:List Ob)(k:KF):Cm call base o kk vs hp k=Kz call base o kk vs hp k:=by
 unfold Cm;split
 ·exact(Zr _ _ _).symm
 ·split
  ·rename_i hs;rw[aaz,cw hs];have hq:=BM (call:=call) (base:=base) (kk:=kk) (vs:=vs) (ids:=bN o vs hp) (obs:=(bN o vs hp).map (bc hp)) (len:=hp.length) hs;simp only[Kz,BL hs,Bool.not_false,Bool.true_or,cond_true,cond_false];cases ha:qK call base o kk vs (bN o vs hp) ((bN o vs hp).map (bc hp)) hp.length with
   |none=>rfl
   |some e=>
    obtain⟨v,ups,new⟩:=e;have:=hq _ ha;simp only[lε]at this;obtain⟨rfl,rfl⟩:=this;rfl
  ·rfl
def KB (d:D)(want:Bool)(t e:R):R:=
 D.rec (motive_1:=fun _=>R) (motive_2:=fun _=>PUnit.{1})
  (fun x=>xv x none (Bool.rec (motive:=fun _=>R) e t want) (Bool.rec (motive:=fun _=>R) t e want))
  (fun _ _=>none) (fun ds _=>List.rec (motive:=fun _=>R) e (fun _ _ _=>none) ds) (fun _ _=>none) (fun _ _ _=>none) (fun _ _=>none) (fun _ _ _ _=>none) (fun _ _ _=>none) (fun _=>none) (fun _ _ _=>none) (fun _ _ _=>none) none ⟨⟩ (fun _ _ _ _=>⟨⟩) d
def KC (d:D)(want:Bool):Option Bool:=
 match d with
 | .p (.bool b)=>some (b==want)
 | .tup []=>some false
 |_=>none
theorem Iq (d:D)(want:Bool)(t e:R):KB d want t e=match KC d want with
  |none=>none
  |some true=>t
  |some false=>e:=by
 cases d<;>try rfl
 ·rename_i x;cases x<;>try rfl
  rename_i b;cases b<;>cases want<;>rfl
 ·rename_i ds;cases ds<;>rfl
theorem xT {x:eW}(tm:Tm)(h:x.gd=none):dH x tm=some true:=by simp[dH,h]
theorem xU {x:eW}(tm:Tm){g:Nat}{w:Bool}(h:x.gd=some (g,w)):dH x tm=KC (get tm g) w:=by
 unfold dH;rw[h];rfl
def gG (d:D)(want:Bool)(run:KV→R)(hp:List Ob)(k:KV):R:=KB d want (run k) (k (.tup []) hp)
def gF (d:D)(want:Bool)(run:KF→R)(hp:List Ob)(k:KF):R:=KB d want (run k) (k (.tup []) hp ⟨[],[],false,0⟩)
def gdO (gd:Option (Nat×Bool))(tm:Tm)(run:KV→R)(hp:List Ob)(k:KV):R:=
 match gd with
 |none=>run k
 |some (g,w)=>gG (sV tm g) w run hp k
def gdF (gd:Option (Nat×Bool))(tm:Tm)(run:KF→R)(hp:List Ob)(k:KF):R:=
 match gd with
 |none=>run k
 |some (g,w)=>gF (sV tm g) w run hp k
def yj (tm:Tm)(as:List A):List D:=List.rec (motive:=fun _=>List D) [] (fun a _ ih=>evA tm a::ih) as
theorem Lg (tm:Tm):∀as,yj tm as=as.map (ev tm)
 |[]=>rfl
 |a::r=>by
  show evA tm a::yj tm r=_;rw[aac,Lg tm r];rfl
def KI (call:aL)(base:Nat)(ops:List eW):Tm→List Ob→K→R:=
 List.rec (motive:=fun _=>Tm→List Ob→K→R) (fun tm hp k=>k tm hp)
  (fun x _ ih tm hp k=>gdO x.gd tm (fun k=>Wy call base x.op x.k (yj tm x.as) hp k) hp fun v hp=>ih (put x.dst v tm) hp k) ops
theorem TY (call:aL)(base:Nat):∀(ops:List eW) (tm:Tm) (hp:List Ob) (k:K),KI call base ops tm hp k=match oD call base ops ⟨tm,hp⟩with
  |none=>none
  |some st=>k st.tm st.hp
 |[],tm,hp,k=>rfl
 |x::r,tm,hp,k=>by
  have step:∀v hp',KI call base r (put x.dst v tm) hp' k=match oD call base r ⟨put x.dst v tm,hp'⟩with
   |none=>none
   |some st=>k st.tm st.hp:=fun v hp'=>TY call base r _ _ _
  have run:(Wy call base x.op x.k (yj tm x.as) hp fun v hp=>KI call base r (put x.dst v tm) hp k)=match (match uq call base x ⟨tm,hp⟩with
    |none=>none
    |some (st',_)=>oD call base r st')with
   |none=>none
   |some st=>k st.tm st.hp:=by
   rw[aaz,Lg];simp only[dE,uq,aek,aa2];cases(!(cZ x.op)||cO (bc hp (base+x.k)))
   ·rfl
   ·simp only[cond_true];cases qK call base x.op x.k (x.as.map (ev tm)) (bN x.op (x.as.map (ev tm)) hp) ((bN x.op (x.as.map (ev tm)) hp).map (bc hp)) hp.length with
    |none=>rfl
    |some e=>
     obtain⟨v,ups,new⟩:=e;exact step _ _
  show gdO x.gd tm (fun k=>Wy call base x.op x.k (yj tm x.as) hp k) hp (fun v hp=>KI call base r (put x.dst v tm) hp k)=_;simp only[oD,gdO];cases hg:x.gd with
  |none=>rw[xT tm hg];exact run
  |some p=>
   obtain⟨g,w⟩:=p;rw[xU tm hg];simp only[gG,Iq,iu];cases KC (get tm g) w with
   |none=>rfl
   |some b=>
    cases b
    ·exact step _ _
    ·exact run
def xY (call:aL)(base:Nat)(ops:List eW):Tm→List Ob→List ew→(Tm→List Ob→List ew→R)→R:=
 List.rec (motive:=fun _=>Tm→List Ob→List ew→(Tm→List Ob→List ew→R)→R) (fun tm hp fs k=>k tm hp fs.reverse)
  (fun x _ ih tm hp fs k=>gdF x.gd tm (fun k=>Cm call base x.op x.k (yj tm x.as) hp k) hp fun v hp f=>ih (put x.dst v tm) hp (f::fs) k) ops
theorem OH (call:aL)(base:Nat):∀(ops:List eW) (tm:Tm) (hp:List Ob) (fs:List ew) (k:Tm→List Ob→List ew→R),xY call base ops tm hp fs k=match ek call base ops ⟨tm,hp⟩ fs with
  |none=>none
  |some (st,fs)=>k st.tm st.hp fs
 |[],tm,hp,fs,k=>rfl
 |x::r,tm,hp,fs,k=>by
  have step:∀v hp' f,xY call base r (put x.dst v tm) hp' (f::fs) k=match ek call base r ⟨put x.dst v tm,hp'⟩ (f::fs)with
   |none=>none
   |some (st,fs)=>k st.tm st.hp fs:=fun v hp' f=>OH call base r _ _ _ _
  have run:(Cm call base x.op x.k (yj tm x.as) hp fun v hp f=>xY call base r (put x.dst v tm) hp (f::fs) k)=match (match uq call base x ⟨tm,hp⟩with
    |none=>none
    |some (st',f)=>ek call base r st' (f::fs))with
   |none=>none
   |some (st,fs)=>k st.tm st.hp fs:=by
   rw[ads,Lg];simp only[Kz,uq,aek,aa2];cases(!(cZ x.op)||cO (bc hp (base+x.k)))
   ·rfl
   ·simp only[cond_true];cases qK call base x.op x.k (x.as.map (ev tm)) (bN x.op (x.as.map (ev tm)) hp) ((bN x.op (x.as.map (ev tm)) hp).map (bc hp)) hp.length with
    |none=>rfl
    |some e=>
     obtain⟨v,ups,new⟩:=e;exact step _ _ _
  show gdF x.gd tm (fun k=>Cm call base x.op x.k (yj tm x.as) hp k) hp (fun v hp f=>xY call base r (put x.dst v tm) hp (f::fs) k)=_;simp only[ek,gdF];cases hg:x.gd with
  |none=>rw[xT tm hg];exact run
  |some p=>
   obtain⟨g,w⟩:=p;rw[xU tm hg];simp only[gF,Iq,iu];cases KC (get tm g) w with
   |none=>rfl
   |some b=>
    cases b
    ·exact step _ _ _
    ·exact run
end
end Go.Ab
end
section
namespace Go.Ab
open Go
abbrev Sem:=aL→Nat→Nat→Tm→List Ob→K→(Nat→K)→K→R
noncomputable section
def TA (d:D)(t e:R):R:=hU d none fun x=>xv x none t e
def nu (out:List Nat)(tm:Tm):Tm:=List.rec (motive:=fun _=>Tm) .nil (fun s _ ih=> .cons s (sV tm s) ih) out
theorem Fg (tm:Tm):∀out,nu out tm=fq out id tm
 |[]=>rfl
 |s::r=>by
  show Tm.cons s (sV tm s) (nu r tm)=_;rw[iu,Fg tm r];rfl
def xS (nal:Nat)(hp:List Ob):List Ob:=Nat.rec (motive:=fun _=>List Ob) hp (fun n _=>grow hp (List.replicate (n+1) .unborn)) nal
theorem OC (nal:Nat)(hp:List Ob):xS nal hp=grow hp (List.replicate nal .unborn):=by cases nal<;>rfl
def Ky (d:D)(e:R)(k:D→R):R:=
 D.rec (motive_1:=fun _=>R) (motive_2:=fun _=>PUnit.{1})
  (fun x=>t8 x fun x=>k (.p x)) (fun _ _=>e) (fun _ _=>e) (fun _ _=>e) (fun _ _ _=>e) (fun x off=>k (.ip x off))
  (fun _ _ _ _=>e) (fun g z es=>k (.sl g z es)) (fun _=>e) (fun _ _ _=>e) (fun _ _ _=>e) (k .junk) ⟨⟩ (fun _ _ _ _=>⟨⟩) d
def nr:D→Bool
 | .p _=>true
 | .ip _ _=>true
 | .sl _ _ _=>true
 | .junk=>true
 |_=>false
theorem Wu (d:D)(e:R)(k:D→R):Ky d e k=bif nr d then k d else e:=by
 cases d<;>try rfl
 simp only[Ky,wh,nr,cond_true]
def LS (live:List Nat)(tm:Tm)(e:R)(k:Tm→R):R:=
 List.rec (motive:=fun _=>(Tm→R)→R) (fun k=>k .nil) (fun s _ ih k=>Ky (sV tm s) e fun d=>ih fun r=>k (.cons s d r)) live k
theorem IS (tm:Tm)(e:R):∀(live:List Nat) (k:Tm→R),LS live tm e k=bif live.all (fun s=>nr (get tm s))then k (fq live id tm)else e
 |[],k=>rfl
 |s::r,k=>by
  show Ky (sV tm s) e (fun d=>LS r tm e fun r=>k (.cons s d r))=_;rw[Wu,IS tm e r,iu];simp only[List.all_cons,fq,id];cases nr (get tm s)<;>rfl
def ghK (m:Nat)(g:Gh)(tm:Tm)(hp:List Ob)(k:K):R:=caseO (nH m g ⟨tm,hp⟩) none fun st=>forceTm st.tm fun tm=>forceHb st.hp fun hp=>k tm hp
theorem agt (m:Nat)(g:Gh)(tm:Tm)(hp:List Ob)(k:K):ghK m g tm hp k=caseO (nH m g ⟨tm,hp⟩) none fun st=>k st.tm st.hp:=by
 unfold ghK;congr 1;funext st;rw[wi,ni]
def Lc (live:List Nat)(tm:Tm)(ws:List Nat):List Nat:=List.rec (motive:=fun _=>List Nat) ws (fun s _ ih=>If (sV tm s) ih) live
theorem Fy (tm:Tm)(ws:List Nat):∀live,Lc live tm ws=dids.didsL (live.map (get tm))++ws
 |[]=>rfl
 |s::r=>by
  show If (sV tm s) (Lc r tm ws)=_;rw[xD,Fy tm ws r,iu];simp only[List.map_cons,dids.didsL,mκ]
def KJ (f:D→D)(live:List Nat)(tm:Tm):Tm:=List.rec (motive:=fun _=>Tm) .nil (fun s _ ih=> .cons s (f (sV tm s)) ih) live
theorem Fj (f:D→D)(tm:Tm):∀live,KJ f live tm=fq live f tm
 |[]=>rfl
 |s::r=>by
  show Tm.cons s (f (sV tm s)) (KJ f r tm)=_;rw[iu,Fj f tm r];rfl
def Is (m:Nat)(live:List Nat)(tm:Tm)(hp:List Ob)(k:K):R:=
 forceNs (iB hp bu (Lc live tm (kO m hp)) (List.range m)) fun ids=>
  forceTm (KJ (jT (lK ids)) live tm) fun tm=>forceHb (qY ids hp) fun hp=>k tm hp
theorem Fi (m:Nat)(live:List Nat)(tm:Tm)(hp:List Ob)(k:K):Is m live tm hp k=caseO (nH m (.keep live) ⟨tm,hp⟩) none fun st=>k st.tm st.hp:=by
 simp only[Is,nk,wi,ni,fm,Fy,kw,Fj,nA,mt,nH,caseO];have:∀ids,jT (idx ids)=mapD (idx ids):=fun ids=>funext fun d=>ic _ d
 simp only[this]
def aaC (m:Nat)(live:List Nat)(tm:Tm)(hp:List Ob)(k:K):R:=
 List.rec (motive:=fun _=>R) (Nat.rec (motive:=fun _=>R) (LS live tm (Is m live tm hp k) fun tm=>k tm []) (fun _ _=>Is m live tm hp k) m) (fun _ _ _=>Is m live tm hp k) hp
theorem Pb (σ:Nat→Option Nat){d:D}(h:nr d=true):mapD σ d=d:=by
 cases d<;>simp_all [nr,mapD]
theorem Od {d:D}(h:nr d=true):dids d=[]:=by
 cases d<;>simp_all [nr,dids]
theorem xE:∀{ds:List D},ds.all nr=true→dids.didsL ds=[]
 |[],_=>rfl
 |d::r,h=>by
  simp only[List.all_cons,lδ]at h;simp only[dids.didsL,Od h.1,xE h.2,mε]
theorem uV (σ:Nat→Option Nat)(tm:Tm):∀{live:List Nat},live.all (fun s=>nr (get tm s))=true→fq live (mapD σ) tm=fq live id tm
 |[],_=>rfl
 |s::r,h=>by
  simp only[List.all_cons,lδ]at h;simp only[fq,Pb σ h.1,uV σ tm h.2,id]
theorem aaD (m:Nat)(live:List Nat)(tm:Tm)(hp:List Ob)(k:K):aaC m live tm hp k=caseO (nH m (.keep live) ⟨tm,hp⟩) none fun st=>k st.tm st.hp:=by
 cases hp with
 |cons o r=>exact Fi _ _ _ _ _
 |nil=>
  cases m with
  |succ m=>exact Fi _ _ _ _ _
  |zero=>
   show LS live tm (Is 0 live tm [] k) (fun tm=>k tm [])=_;rw[IS,Fi];cases h:live.all (fun s=>nr (get tm s))
   ·rfl
   ·have hd:dids.didsL (live.map (get tm))=[]:=xE (by rw[List.all_map];exact h);simp only[cond_true,nH,hd,List.take_nil,List.flatMap_nil,mε,tZ,caseO];rw[uV _ tm h];rfl
def Iz (m:Nat)(live:List Nat)(body:Tm→List Ob→K→R)(fuel:Nat)(tm:Tm)(hp:List Ob):R:=
 Nat.rec (motive:=fun _=>Tm→List Ob→R) (fun _ _=>none) (fun _ ih tm hp=>aaC m live tm hp fun tm hp=>body tm hp ih) fuel tm hp
def ae7:Sem:=fun _ _ _ tm hp kn _ _=>kn tm hp
def aiy:Sem:=fun _ _ _ tm hp _ _ kr=>kr tm hp
def aeN (id:Nat):Sem:=fun _ _ _ tm hp _ ke _=>ke id tm hp
def ajx (a b:Sem):Sem:=fun c n m tm hp kn ke kr=>a c n m tm hp (fun tm hp=>b c n m tm hp kn ke kr) ke kr
def ahW (x:A)(t e:Sem):Sem:=fun c n m tm hp kn ke kr=>TA (evA tm x) (t c n m tm hp kn ke kr) (e c n m tm hp kn ke kr)
def afC (id:Nat)(b:Sem):Sem:=fun c n m tm hp kn ke kr=>b c n m tm hp kn (fun i tm hp=>wJ (Nat.beq i id) (kn tm hp) (ke i tm hp)) kr
def aip (live:List Nat)(b:Sem):Sem:=fun c n m tm hp _ ke kr=>Iz m live (fun tm hp k=>b c n m tm hp k ke kr) n tm hp
def ghS (g:Gh)(b:Sem):Sem:=fun c n m tm hp kn ke kr=>ghK m g tm hp fun tm hp=>b c n m tm hp kn ke kr
def ajv (nal:Nat)(f:aL→Nat→Tm→List Ob→K→R):Sem:=fun c _ _ tm hp kn _ _=>f c hp.length tm (xS nal hp) kn
def aju (nal:Nat)(ps:List (Nat×Nat))(f:aL→Nat→Tm→List Ob→(Tm→List Ob→List ew→R)→R):Sem:=fun c _ _ tm hp kn _ _=>f c hp.length tm (xS nal hp) fun tm hp fs=>wJ (fW fs ps) (kn tm hp) none
def aix (nal:Nat)(ops:List eW)(prs:Option (List (Nat×Nat)))(out:List Nat):Sem:=
 match prs with
 |none=>ajv nal fun call base tm hp k=>KI call base ops tm hp fun tm hp=>k (nu out tm) hp
 |some ps=>aju nal ps fun call base tm hp k=>xY call base ops tm hp [] fun tm hp fs=>k (nu out tm) hp fs
def Wg (c:Co):Sem:=
 Co.rec (motive:=fun _=>Sem) ae7 (fun nal ops prs out=>aix nal ops prs out) (fun _ _ a b=>ajx a b) (fun c _ _ t e=>ahW c t e) (fun id _ b=>afC id b) (fun live _ b=>aip live b) (fun id=>aeN id) aiy (fun g _ c=>ghS g c) c
def Hs (r:Option (Ex×St))(kn:K)(ke:Nat→K)(kr:K):R:=
 match r with
 |none=>none
 |some (.norm,st)=>kn st.tm st.hp
 |some (.exit i,st)=>ke i st.tm st.hp
 |some (.ret,st)=>kr st.tm st.hp
theorem O7 {m:Nat}{live:List Nat}{body:St→Option (Ex×St)}{bodyK:Tm→List Ob→K→(Nat→K)→K→R}{ke:Nat→K}{kr kn:K}(hb:∀tm hp kn,bodyK tm hp kn ke kr=Hs (body ⟨tm,hp⟩) kn ke kr):∀(fuel:Nat) (tm:Tm) (hp:List Ob),Iz m live (fun tm hp k=>bodyK tm hp k ke kr) fuel tm hp=Hs (AE m body live fuel ⟨tm,hp⟩) kn ke kr
 |0,tm,hp=>rfl
 |n+1,tm,hp=>by
  show aaC m live tm hp (fun tm hp=>bodyK tm hp (Iz m live (fun tm hp k=>bodyK tm hp k ke kr) n) ke kr)=_;rw[aaD];simp only[AE];cases nH m (.keep live) ⟨tm,hp⟩with
  |none=>rfl
  |some st=>
   show bodyK st.tm st.hp (Iz m live (fun tm hp k=>bodyK tm hp k ke kr) n) ke kr=_;rw[hb];show Hs (body st) _ ke kr=Hs (match body st with
    |some (.norm,st')=>AE m body live n st'
    |r=>r) kn ke kr
   cases body st with
   |none=>rfl
   |some p=>
    obtain⟨ex,st'⟩:=p;cases ex with
    |norm=>exact O7 hb n _ _
    |exit i=>rfl
    |ret=>rfl
theorem sN (call:aL)(fuel m:Nat):∀(c:Co) (tm:Tm) (hp:List Ob) (kn:K) (ke:Nat→K) (kr:K),Wg c call fuel m tm hp kn ke kr=Hs (cN call fuel m c ⟨tm,hp⟩) kn ke kr
 | .skip,tm,hp,kn,ke,kr=>rfl
 | .ret,tm,hp,kn,ke,kr=>rfl
 | .exit i,tm,hp,kn,ke,kr=>rfl
 | .reg nal ops none out,tm,hp,kn,ke,kr=>by
  show KI call hp.length ops tm (xS nal hp) (fun tm hp=>kn (nu out tm) hp)=_;rw[TY,OC];simp only[cN,BA];cases oD call hp.length ops ⟨tm,grow hp (List.replicate nal .unborn)⟩with
  |none=>rfl
  |some st=>simp only[Hs,Fg]
 | .reg nal ops (some ps) out,tm,hp,kn,ke,kr=>by
  show xY call hp.length ops tm (xS nal hp) [] (fun tm hp fs=>wJ (fW fs ps) (kn (nu out tm) hp) none)=_;rw[OH,OC];simp only[cN,BA];cases ek call hp.length ops ⟨tm,grow hp (List.replicate nal .unborn)⟩ []with
  |none=>rfl
  |some p=>
   obtain⟨st,fs⟩:=p;simp only[iF];cases fW fs ps
   ·rfl
   ·simp only[Hs,cond_true,Fg]
 | .seq a b,tm,hp,kn,ke,kr=>by
  show Wg a call fuel m tm hp (fun tm hp=>Wg b call fuel m tm hp kn ke kr) ke kr=_;rw[sN call fuel m a];simp only[cN];cases cN call fuel m a ⟨tm,hp⟩with
  |none=>rfl
  |some p=>
   obtain⟨ex,st⟩:=p;cases ex with
   |norm=>exact sN call fuel m b _ _ _ _ _
   |exit i=>rfl
   |ret=>rfl
 | .cond c t e,tm,hp,kn,ke,kr=>by
  show TA (evA tm c) (Wg t call fuel m tm hp kn ke kr) (Wg e call fuel m tm hp kn ke kr)=_;rw[sN call fuel m t,sN call fuel m e,aac];simp only[cN];cases ev tm c<;>try rfl
  rename_i x;cases x<;>try rfl
  rename_i b;cases b<;>rfl
 | .block id b,tm,hp,kn,ke,kr=>by
  show Wg b call fuel m tm hp kn (fun i tm hp=>wJ (Nat.beq i id) (kn tm hp) (ke i tm hp)) kr=_;rw[sN call fuel m b];simp only[cN];cases cN call fuel m b ⟨tm,hp⟩with
  |none=>rfl
  |some p=>
   obtain⟨ex,st⟩:=p;cases ex with
   |norm=>rfl
   |ret=>rfl
   |exit i=>
    simp only[Hs,iF];cases Nat.beq i id<;>rfl
 | .loop live b,tm,hp,kn,ke,kr=>O7 (fun tm hp kn=>sN call fuel m b tm hp kn ke kr) fuel tm hp
 | .gh g c,tm,hp,kn,ke,kr=>by
  show ghK m g tm hp (fun tm hp=>Wg c call fuel m tm hp kn ke kr)=_;rw[agt];simp only[cN];cases nH m g ⟨tm,hp⟩with
  |none=>rfl
  |some st=>exact sN call fuel m c _ _ _ _ _
theorem Ip (hp:List Ob):∀{ds:List D},ds.all QE=true→ur hp ds=(ds,hp)
 |[],_=>rfl
 |d::r,h=>by
  simp only[List.all_cons,lδ]at h;cases d<;>simp only[QE,Bool.false_eq_true,false_and]at h;have e:ur hp r=(r,hp):=Ip hp h.2;simp only[ur,dids,List.map_nil,pur,dD,aA,e]
def R0 (m:Nat)(ds:List D)(hp:List Ob):R:=
 forceNs (iB hp bu (gJ ds (kO m hp)) (List.range m)) fun ids=>sT (jT (lK ids) (one ds)) fun r=>forceHb (qY ids hp) fun out=>some (r,out)
def Ws (m:Nat)(fz:Bool)(ds:List D)(hp:List Ob):R:=
 tu ds (Bool.rec (motive:=fun _=>R) (R0 m ds hp) (Prod.rec (motive:=fun _=>R) (fun ds hp=>R0 m ds hp) (ur hp ds)) fz)
  fun ds=>Nat.rec (motive:=fun _=>R) (some (one ds,[])) (fun _ _=>R0 m ds hp) m
theorem Kv (m:Nat)(ds:List D)(hp:List Ob):R0 m ds hp=some (mapD (idx (cr hp bu (dids.didsL ds++(hp.take m).flatMap lR) (List.range m))) (one ds),cb (cr hp bu (dids.didsL ds++(hp.take m).flatMap lR) (List.range m)) hp):=by
 simp only[R0,nk,Wv,ni,fm,gu,kw,ic,mt,nA]
theorem Db (m:Nat)(fz:Bool)(ds:List D)(hp:List Ob):Ws m fz ds hp=some (fin m fz ds hp):=by
 unfold Ws;rw[lA];cases h:ds.all QE
 ·cases fz with
  |false=>exact Kv m ds hp
  |true=>
   show Prod.rec (motive:=fun _=>R) (fun ds hp=>R0 m ds hp) (ur hp ds)=_;simp only[fin,cond_true];cases ur hp ds;exact Kv _ _ _
 ·have e:(bif fz then ur hp ds else(ds,hp))=(ds,hp):=by cases fz<;>simp[Ip hp h]
  cases m with
  |succ m=>
   show R0 (m+1) ds hp=_;rw[Kv];simp only[fin,e]
  |zero=>
   have hp1:FY (one ds)=true:=by
    unfold one;split
    ·rename_i d;simp only[List.all_cons,lδ]at h;cases d<;>simp_all [QE,FY]
    ·exact h
   simp only[cond_true,fin,e,t4 h,List.take_zero,List.flatMap_nil,mε,tZ,List.range_zero];rw[AO _ hp1];rfl
def rvK (tm:Tm)(hp:List Ob)(r:Rv)(k:D→R):R:=
 Rv.rec (motive:=fun _=>R) (fun n=>k (sV tm n)) (fun a n agg=>D.rec (motive_1:=fun _=>R) (motive_2:=fun _=>PUnit.{1})
  (fun _=>none) (fun _ _=>none) (fun _ _=>none) (fun id off=>oC (ML hp id) none fun cs=>SW cs off n fun ds=>wA agg ds k) (fun _ _ _=>none) (fun _ _=>none) (fun _ _ _ _=>none) (fun _ _ _=>none) (fun _=>none) (fun _ _ _=>none) (fun _ _ _=>none) none ⟨⟩ (fun _ _ _ _=>⟨⟩) (sV tm a)) r
theorem ahx (tm:Tm)(hp:List Ob)(r:Rv)(k:D→R):rvK tm hp r k=caseO (Ot ⟨tm,hp⟩ r) none k:=by
 cases r with
 |t n=>simp only[rvK,Ot,iu,caseO]
 |cell a n agg=>
  simp only[rvK,Ot,iu,pi,yQ,pR];cases get tm a<;>try rfl
  rename_i id off;have:bc hp id=hp.getD id .dead:=rfl;simp only[this];cases hp.getD id .dead<;>try rfl
  rename_i cs;simp only[oC];cases sub cs off n<;>rfl
def W2 (tm:Tm)(hp:List Ob)(rs:List Rv)(k:List D→R):R:=
 List.rec (motive:=fun _=>(List D→R)→R) (fun k=>k []) (fun r _ ih k=>rvK tm hp r fun d=>ih fun ds=>k (d::ds)) rs k
theorem Ds (tm:Tm)(hp:List Ob):∀(rs:List Rv) (k:List D→R),W2 tm hp rs k=caseO (nh ⟨tm,hp⟩ rs) none k
 |[],k=>rfl
 |r::rs,k=>by
  show rvK tm hp r (fun d=>W2 tm hp rs fun ds=>k (d::ds))=_;rw[ahx];simp only[Ds tm hp rs,nh];cases Ot ⟨tm,hp⟩ r with
  |none=>rfl
  |some d=>
   simp only[caseO];cases nh ⟨tm,hp⟩ rs<;>rfl
def HK (b:Sem)(call:aL)(n:Nat)(res:List Rv)(fz:Bool)(args:List D)(hp:List Ob):R:=
 b call n hp.length (fg args 0) hp (fun tm hp'=>W2 tm hp' res fun ds=>Ws hp.length fz ds hp') (fun _ _ _=>none) (fun tm hp'=>W2 tm hp' res fun ds=>Ws hp.length fz ds hp')
theorem Dq (call:aL)(fuel:Nat)(x:Fx)(args:List D)(hp:List Ob):HK (Wg x.body) call fuel x.res x.fz args hp=fh call fuel x args hp:=by
 unfold HK fh tB;simp only[Ds];rw[sN];cases cN call fuel hp.length x.body ⟨fg args 0,hp⟩with
 |none=>rfl
 |some p=>
  obtain⟨ex,st⟩:=p;cases ex with
  |norm=>
   simp only[Hs,Db];cases nh st x.res<;>rfl
  |ret=>
   simp only[Hs,Db];cases nh st x.res<;>rfl
  |exit i=>rfl
inductive Hn where
 |code (b:Sem) (res:List Rv) (fz:Bool)
 |prim (g:List Da→Option (D×List Ob))
 |both (g:List Da→Option (D×List Ob)) (b:Sem) (res:List Rv) (fz:Bool)
 |any (g:List D→List Ob→Option (D×List Ob))
def hn (tab:Option Hn)(ih:aL)(n:Nat)(args:List D)(hp:List Ob):R:=
 Option.rec (motive:=fun _=>R) none (fun h=>Hn.rec (motive:=fun _=>R) (fun b res fz=>HK b ih n res fz args hp) (fun g=>match j0 args with
   |some xs=>match hp with
    |[]=>g xs
    |_=>none
   |none=>none) (fun g b res fz=>match j0 args with
   |some xs=>match hp with
    |[]=>g xs
    |_=>HK b ih n res fz args hp
   |none=>HK b ih n res fz args hp) (fun g=>g args hp) h) tab
def nG (tab:Nat→Option Hn)(n:Nat):aL:=
 Nat.rec (motive:=fun _=>aL) (fun _ _ _=>none) (fun n ih f args hp=>hn (tab f) ih n args hp) n
def same (a:Option Hn)(b:Option Fn):Prop:=
 match a,b with
 |none,none=>True
 |some (.code g res fz),some (.code x)=>Wg x.body=g∧x.res=res∧x.fz=fz
 |some (.prim g),some (.prim h)=>g=h
 |some (.both g b res fz),some (.both h x)=>g=h∧Wg x.body=b∧x.res=res∧x.fz=fz
 |some (.any g),some (.any h)=>g=h
 |_,_=>False
theorem aae {tabH:Nat→Option Hn}{tab:Nat→Option Fn}(h:∀f,same (tabH f) (tab f)):∀n,nG tabH n=evFn tab n
 |0=>by funext f args hp;rfl
 |n+1=>by
  funext f args hp
  show hn (tabH f) (nG tabH n) n args hp=_;rw[aae h n];have hf:=h f;simp only[evFn,agG];cases h1:tabH f with
  |none=>
   rw[h1]at hf;cases h2:tab f with
   |none=>rfl
   |some x=>rw[h2]at hf;cases x<;>exact hf.elim
  |some a=>
   rw[h1]at hf;cases h2:tab f with
   |none=>rw[h2]at hf;cases a<;>exact hf.elim
   |some x=>
    rw[h2]at hf;cases a with
    |code g res fz=>
     cases x with
     |code x=>
      obtain⟨h3,rfl,rfl⟩:=hf;show HK g (evFn tab n) n x.res x.fz args hp=_;rw[←h3,Dq]
     |prim q=>exact hf.elim
     |both q x=>exact hf.elim
     |any q=>exact hf.elim
    |prim g=>
     cases x with
     |code x=>exact hf.elim
     |prim q=>obtain rfl:g=q:=hf;rfl
     |both q x=>exact hf.elim
     |any q=>exact hf.elim
    |both g b res fz=>
     cases x with
     |code x=>exact hf.elim
     |prim q=>exact hf.elim
     |both q x=>
      obtain⟨rfl,h3,rfl,rfl⟩:=hf;show(match j0 args with
       |some xs=>match hp with
        |[]=>g xs
        |_=>HK b (evFn tab n) n x.res x.fz args hp
       |none=>HK b (evFn tab n) n x.res x.fz args hp)=_
      rw[←h3,Dq];rfl
     |any q=>exact hf.elim
    |any g=>
     cases x with
     |code x=>exact hf.elim
     |prim q=>exact hf.elim
     |both q x=>exact hf.elim
     |any q=>obtain rfl:g=q:=hf;rfl
def ado (b:Bool)(x y:Option Hn):Option Hn:=Bool.rec (motive:=fun _=>Option Hn) y x b
theorem A4 {b:Bool}{x y:Option Hn}{x' y':Option Fn}(h:same x x')(k:same y y'):same (ado b x y) (bif b then x' else y'):=by
 cases b
 ·exact k
 ·exact h
end
end Go.Ab
end
section
namespace Go.Ab
open Go
noncomputable section
def kh (a b:Bool):Bool:=Bool.rec (motive:=fun _=>Bool) false b a
theorem iq (a b:Bool):kh a b=(a&&b):=by cases a<;>rfl
def aiT (y:Da)(k:IntKind→Int→Bool):Bool:=
 Da.rec (motive_1:=fun _=>Bool) (motive_2:=fun _=>PUnit.{1}) (fun _=>false) (fun i n=>k i n) (fun _=>false) (fun _ _=>false) (fun _ _ _=>false) false (fun _ _=>false) (fun _ _ _ _=>false) false (fun _ _ _=>false) false (fun _ _ _=>false) false (fun _ _ _=>false) (fun _ _=>false) ⟨⟩ (fun _ _ _ _=>⟨⟩) y
def aiV (y:Da)(k:List Nat→Bool):Bool:=
 Da.rec (motive_1:=fun _=>Bool) (motive_2:=fun _=>PUnit.{1}) (fun _=>false) (fun _ _=>false) (fun s=>k s) (fun _ _=>false) (fun _ _ _=>false) false (fun _ _=>false) (fun _ _ _ _=>false) false (fun _ _ _=>false) false (fun _ _ _=>false) false (fun _ _ _=>false) (fun _ _=>false) ⟨⟩ (fun _ _ _ _=>⟨⟩) y
def aiS (y:Da)(k:List Da→Bool):Bool:=
 Da.rec (motive_1:=fun _=>Bool) (motive_2:=fun _=>PUnit.{1}) (fun _=>false) (fun _ _=>false) (fun _=>false) (fun cs _=>k cs) (fun _ _ _=>false) false (fun _ _=>false) (fun _ _ _ _=>false) false (fun _ _ _=>false) false (fun _ _ _=>false) false (fun _ _ _=>false) (fun _ _=>false) ⟨⟩ (fun _ _ _ _=>⟨⟩) y
def abA (y:Da)(k:Nat→List Da→Bool):Bool:=
 Da.rec (motive_1:=fun _=>Bool) (motive_2:=fun _=>PUnit.{1}) (fun _=>false) (fun _ _=>false) (fun _=>false) (fun _ _=>false) (fun z es _=>k z es) false (fun _ _=>false) (fun _ _ _ _=>false) false (fun _ _ _=>false) false (fun _ _ _=>false) false (fun _ _ _=>false) (fun _ _=>false) ⟨⟩ (fun _ _ _ _=>⟨⟩) y
def UU (y:Da)(k:Nat→List Da→Bool):Bool:=
 Da.rec (motive_1:=fun _=>Bool) (motive_2:=fun _=>PUnit.{1}) (fun _=>false) (fun _ _=>false) (fun _=>false) (fun _ _=>false) (fun _ _ _=>false) false (fun _ _=>false) (fun _ _ _ _=>false) false (fun _ _ _=>false) false (fun _ _ _=>false) false (fun z es _=>k z es) (fun _ _=>false) ⟨⟩ (fun _ _ _ _=>⟨⟩) y
def Z6 (m n:Int):Bool:=Int.rec (motive:=fun _=>Bool) (fun a=>Int.rec (motive:=fun _=>Bool) (fun b=>Nat.beq a b) (fun _=>false) n) (fun a=>Int.rec (motive:=fun _=>Bool) (fun _=>false) (fun b=>Nat.beq a b) n) m
theorem ac5 {m n:Int}(h:Z6 m n=true):m=n:=by
 cases m<;>cases n<;>simp only[Z6,Bool.false_eq_true]at h
 ·rw[lζ h]
 ·rw[lζ h]
theorem On:∀{a b:List Nat},aN a b=true→a=b
 |[],[],_=>rfl
 |[],_::_,h=>by simp[aN]at h
 |_::_,[],h=>by simp[aN]at h
 |x::a,y::b,h=>by
  simp only[aN]at h;cases hx:Nat.beq x y
  ·simp[hx]at h
  ·simp only[hx,cond_true]at h;rw[lζ hx,On h]
def Z5 (x:Da):Da→Bool:=
 Da.rec (motive_1:=fun _=>Da→Bool) (motive_2:=fun _=>List Da→Bool)
  (fun _ _=>false) (fun i n y=>aiT y fun j m=>kh (Nat.beq (kc i) (kc j)) (Z6 n m)) (fun s y=>aiV y fun t=>RX s t) (fun _ ih y=>aiS y ih) (fun z _ ih y=>abA y fun z' es'=>kh (Nat.beq z z') (ih es'))
  (fun _=>false) (fun _ _ _=>false) (fun _ _ _ _ _=>false) (fun _=>false) (fun _ _ _ _=>false) (fun _=>false) (fun _ _ _ _=>false) (fun _=>false) (fun z _ ih y=>UU y fun z' es'=>kh (Nat.beq z z') (ih es')) (fun _ _ _=>false)
  (fun ys=>List.rec (motive:=fun _=>Bool) true (fun _ _ _=>false) ys) (fun _ _ ihd ihr ys=>List.rec (motive:=fun _=>Bool) false (fun y ys _=>kh (ihd y) (ihr ys)) ys) x
def Bz (xs:List Da):List Da→Bool:=
 List.rec (motive:=fun _=>List Da→Bool) (fun ys=>List.rec (motive:=fun _=>Bool) true (fun _ _ _=>false) ys) (fun x _ ih ys=>List.rec (motive:=fun _=>Bool) false (fun y ys _=>kh (Z5 x y) (ih ys)) ys) xs
mutual
theorem Kn:∀(x y:Da),Z5 x y=true→x=y
 | .bool _,y,h=>absurd (show false=true from h) Bool.false_ne_true
 | .int i n,y,h=>by
  cases y<;>try exact absurd (show false=true from h) Bool.false_ne_true
  rename_i j m;have h':kh (Nat.beq (kc i) (kc j)) (Z6 n m)=true:=h;rw[iq,aaA,lδ,lη]at h';rw[h'.1,ac5 h'.2]
 | .str s,y,h=>by
  cases y<;>try exact absurd (show false=true from h) Bool.false_ne_true
  rename_i t;have h':RX s t=true:=h;rw[Ko]at h';rw[On h']
 | .agg cs,y,h=>by
  cases y<;>try exact absurd (show false=true from h) Bool.false_ne_true
  rename_i cs';rw[C8 cs cs' h]
 | .slice z es,y,h=>by
  cases y<;>try exact absurd (show false=true from h) Bool.false_ne_true
  rename_i z' es';have h':kh (Nat.beq z z') _=true:=h;rw[iq,lδ]at h';rw[lζ h'.1,C8 es es' h'.2]
 | .nilptr,y,h=>absurd (show false=true from h) Bool.false_ne_true
 | .ptr _,y,h=>absurd (show false=true from h) Bool.false_ne_true
 | .map _ _,y,h=>absurd (show false=true from h) Bool.false_ne_true
 | .nilmap,y,h=>absurd (show false=true from h) Bool.false_ne_true
 | .fn _ _,y,h=>absurd (show false=true from h) Bool.false_ne_true
 | .nilfn,y,h=>absurd (show false=true from h) Bool.false_ne_true
 | .iface _ _,y,h=>absurd (show false=true from h) Bool.false_ne_true
 | .nilif,y,h=>absurd (show false=true from h) Bool.false_ne_true
 | .sliceE z es,y,h=>by
  cases y<;>try exact absurd (show false=true from h) Bool.false_ne_true
  rename_i z' es';have h':kh (Nat.beq z z') _=true:=h;rw[iq,lδ]at h';rw[lζ h'.1,C8 es es' h'.2]
 | .sym _ _,y,h=>absurd (show false=true from h) Bool.false_ne_true
theorem C8:∀(xs ys:List Da),Da.rec_1 (motive_1:=fun _=>Da→Bool) (motive_2:=fun _=>List Da→Bool)
  (fun _ _=>false) (fun i n y=>aiT y fun j m=>kh (Nat.beq (kc i) (kc j)) (Z6 n m)) (fun s y=>aiV y fun t=>RX s t) (fun _ ih y=>aiS y ih) (fun z _ ih y=>abA y fun z' es'=>kh (Nat.beq z z') (ih es'))
  (fun _=>false) (fun _ _ _=>false) (fun _ _ _ _ _=>false) (fun _=>false) (fun _ _ _ _=>false) (fun _=>false) (fun _ _ _ _=>false) (fun _=>false) (fun z _ ih y=>UU y fun z' es'=>kh (Nat.beq z z') (ih es')) (fun _ _ _=>false)
  (fun ys=>List.rec (motive:=fun _=>Bool) true (fun _ _ _=>false) ys) (fun _ _ ihd ihr ys=>List.rec (motive:=fun _=>Bool) false (fun y ys _=>kh (ihd y) (ihr ys)) ys) xs ys=true→xs=ys
 |[],[],_=>rfl
 |[],_::_,h=>by cases h
 |_::_,[],h=>by cases h
 |x::xs,y::ys,h=>by
  have h':kh (Z5 x y) _=true:=h;rw[iq,lδ]at h';rw[Kn x y h'.1,C8 xs ys h'.2]
end
theorem sP:∀{xs ys:List Da},Bz xs ys=true→xs=ys
 |[],[],_=>rfl
 |[],_::_,h=>by cases h
 |_::_,[],h=>by cases h
 |x::xs,y::ys,h=>by
  have h':kh (Z5 x y) (Bz xs ys)=true:=h;rw[iq,lδ]at h';rw[Kn x y h'.1,sP h'.2]
def memo (l:List (List Da×R))(xs:List Da):R:=
 List.rec (motive:=fun _=>R) none (fun p _ ih=>Bool.rec (motive:=fun _=>R) ih p.2 (Bz p.1 xs)) l
theorem FB:∀{l:List (List Da×R)} {xs:List Da} {ro:D×List Ob},memo l xs=some ro→∃p∈l,p.1=xs∧p.2=some ro
 |[],xs,ro,h=>by cases h
 |p::l,xs,ro,h=>by
  have h':Bool.rec (motive:=fun _=>R) (memo l xs) p.2 (Bz p.1 xs)=some ro:=h;cases he:Bz p.1 xs
  ·rw[he]at h';obtain⟨q,h1,h2⟩:=FB (l:=l) h';exact⟨q,lψ _ h1,h2⟩
  ·rw[he]at h';exact⟨p,lυ ..,sP he,h'⟩
variable [Letters]
theorem WM {P:Program}{G:ce}{call:aL}(hc:dV P G call){f:Nat}{l:List (List Da×R)}(h:∀p∈l,p.2=none∨call f (p.1.map .p) []=p.2):gC P G f (memo l):=by
 intro xs r out hm;obtain⟨p,hp,hx,hr⟩:=FB hm;rcases h p hp with h1|h1
 ·rw[h1]at hr;cases hr
 ·subst hx;rw[hr]at h1;obtain⟨c1,c2⟩:=hc f _ [] _ _ h1;refine⟨c1,fun w S vs hS hg hv=>?_⟩
  exact c2 [] w S vs ⟨rfl,by intro id l o h;simp at h,by rintro b ⟨id,l,o,h,_⟩;simp at h,by intro id id' l l' o o' b h;simp at h,hS⟩ hg (Pw.map_left (by simpa only[VR]using hv))
def Ua (l:List (List Da×R))(call:aL)(f:Nat)(xs:List Da):R:=
 Option.rec (motive:=fun _=>R) (call f (xs.map .p) []) (fun r=>some r) (memo l xs)
theorem Sm {P:Program}{G:ce}{call:aL}(hc:dV P G call){f:Nat}{l:List (List Da×R)}(h:∀p∈l,p.2=none∨call f (p.1.map .p) []=p.2):gC P G f (Ua l call f):=by
 intro xs r out hm;have hcall:call f (xs.map .p) []=some (r,out):=by
  unfold Ua at hm;cases hq:memo l xs with
  |none=>rw[hq]at hm;exact hm
  |some ro=>
   rw[hq]at hm;obtain⟨p,hp,hx,hr⟩:=FB hq;rcases h p hp with h1|h1
   ·rw[h1]at hr;cases hr
   ·rw[hr,hx]at h1;rw[h1];exact hm
 obtain⟨c1,c2⟩:=hc f _ [] _ _ hcall;refine⟨c1,fun w S vs hS hg hv=>?_⟩
 exact c2 [] w S vs ⟨rfl,by intro id l o h;simp at h,by rintro b ⟨id,l,o,h,_⟩;simp at h,by intro id id' l l' o o' b h;simp at h,hS⟩ hg (Pw.map_left (by simpa only[VR]using hv))
end
end Go.Ab
end
section
namespace Go.Ab
def oG (n bytes:Nat):Bool:=Nat.ble ((2*(0+n)+192)*bytes) 281474976710656&&Nat.ble (2*(0+n)+192) 9223372036854775807
def ui (z bytes:Nat):List Da→Option (D×List Ob)
 |[.slice z' es]=>bif Nat.beq z' z&&oG es.length bytes then some (.p (.slice z es),[])else none
 |_=>none
def qU (z bytes:Nat):List Da→Option (D×List Ob)
 |[.slice z' es]=>bif Nat.beq z' z&&oG es.length bytes then some (.arr 0 0 es.length z,[.arr es])else none
 |_=>none
end Go.Ab
end
section
namespace Go.Ab
open Go
variable [Letters]
theorem yD {P : Program} {G : ce} {call : aL} (hcall : dV P G call) (hmix : P.follows .mixedOrders = true) {raw : Nat → Bool} {f fuel : Nat} {fn : Func} {x : Fx} (hf : P.funcs[f]? = some fn) (hx : G1 P G raw fn x) (hn : (fn.name == "runtime.NumGoroutine") = false)
  {g:List Da→Option (D×List Ob)} (h:∀xs r out,g xs=some (r,out)→∃z es,xs=[.slice z es]∧(es=[]→fh call fuel x [.sl .na z []] []=some (r,out))∧fh call fuel x [.sl .some z es] []=some (r,out)):gC P G f g:=by
 intro xs r out hg;obtain⟨z,es,rfl,h1,h2⟩:=h xs r out hg;refine⟨⟨fn,hf,?_,hn⟩,fun w S vs hS hgr hv=>?_⟩
 ·cases hb:fn.body with
  |none=>obtain⟨h4,_⟩:=hx;rw[hb]at h4;simp at h4
  |some c=>rfl
 ·obtain⟨v,us,rfl,hv1,hv2⟩:=hv.cons_inv;obtain rfl:=hv2.nil_inv;have hr:HR [] w S []:=⟨rfl,by intro id l o h;simp at h,by rintro b ⟨id,l,o,h,_⟩;simp at h,by intro id id' l l' o o' b h;simp at h,hS⟩
  have hv3:=hv1;simp only[PR]at hv3;obtain⟨a,cap,us,rfl,k1,k2,k3⟩:=hv3;cases a with
  |none=>
   have hus:us=[]:=by
    rcases us with _|⟨u,us⟩
    ·rfl
    ·obtain⟨b,o,hb,_⟩:=k3 (by simp);cases hb
   subst hus;have hes:es=[]:=by
    have:=(PRs_iff.1 k2).1;exact lν this
   have hvr:VR [] w S (.sl .na z []) (.slice none 0 cap):=by
    simp only[VR];exact⟨none,cap,[],rfl,by simp,by simp[jX],by simp[um],by simp⟩
   exact aeR hcall hmix hf hx (h1 hes) hr hgr (Pw.cons hvr Pw.nil)
  |some a=>
   have hvr:VR [] w S (.sl .some z es) (.slice (some a) us.length cap):=by
    simp only[VR];exact⟨some a,cap,us,rfl,k1,by simp[jX],k2,k3⟩
   exact aeR hcall hmix hf hx h2 hr hgr (Pw.cons hvr Pw.nil)
theorem Uf {P:Program}{G:ce}:dV P G (fun _ _ _=>none):=by intro f ds hp r out h;cases h
theorem ZC {P : Program} {G : ce} (hmix : P.follows .mixedOrders = true) {raw : Nat → Bool} {f : Nat} {fn : Func} {x : Fx} (hf : P.funcs[f]? = some fn) (hx : G1 P G raw fn x) (hn : (fn.name == "runtime.NumGoroutine") = false) {z bytes : Nat}
  (h0:fh (fun _ _ _=>none) 0 x [.sl .na z []] []=some (.p (.slice z []),[]))
  (h1:fh (fun _ _ _=>none) 0 x [.sl .some z []] []=some (.p (.slice z []),[]))
  (h2:∀e es,fh (fun _ _ _=>none) 0 x [.sl .some z (e::es)] []=bif oG (es.length+1) bytes then some (.p (.slice z ((e::es).take (0+(es.length+1)))),[])else none):gC P G f (ui z bytes):=by
 refine yD Uf hmix (fuel:=0) hf hx hn fun xs r out hg=>?_
 unfold ui at hg;split at hg
 ·rename_i z' es;cases hz:Nat.beq z' z
  ·simp[hz]at hg
  ·obtain rfl:=lζ hz;simp only[hz,Bool.true_and]at hg;cases hr:oG es.length bytes
   ·simp[hr]at hg
   ·simp only[hr,cond_true,lα,lε]at hg;obtain⟨rfl,rfl⟩:=hg;refine⟨z',es,rfl,fun he=>by subst he;exact h0,?_⟩
    cases es with
    |nil=>exact h1
    |cons e es=>
     rw[h2,show es.length+1=(e::es).length from rfl,hr,cond_true,Nat.zero_add,List.take_length]
 ·simp at hg
theorem V9 {P : Program} {G : ce} (hmix : P.follows .mixedOrders = true) {raw : Nat → Bool} {f : Nat} {fn : Func} {x : Fx} (hf : P.funcs[f]? = some fn) (hx : G1 P G raw fn x) (hn : (fn.name == "runtime.NumGoroutine") = false) {z bytes : Nat}
  (h0:fh (fun _ _ _=>none) 0 x [.sl .na z []] []=some (.arr 0 0 0 z,[.arr []]))
  (h1:fh (fun _ _ _=>none) 0 x [.sl .some z []] []=some (.arr 0 0 0 z,[.arr []]))
  (h2:∀e es,fh (fun _ _ _=>none) 0 x [.sl .some z (e::es)] []=bif oG (es.length+1) bytes then some (.arr 0 0 (0+(es.length+1)) z,[.arr (e::es)])else none):gC P G f (qU z bytes):=by
 refine yD Uf hmix (fuel:=0) hf hx hn fun xs r out hg=>?_
 unfold qU at hg;split at hg
 ·rename_i z' es;cases hz:Nat.beq z' z
  ·simp[hz]at hg
  ·obtain rfl:=lζ hz;simp only[hz,Bool.true_and]at hg;cases hr:oG es.length bytes
   ·simp[hr]at hg
   ·simp only[hr,cond_true,lα,lε]at hg;obtain⟨rfl,rfl⟩:=hg;refine⟨z',es,rfl,fun he=>by subst he;exact h0,?_⟩
    cases es with
    |nil=>exact h1
    |cons e es=>
     rw[h2,show es.length+1=(e::es).length from rfl,hr,cond_true,Nat.zero_add]
 ·simp at hg
def gE (z:Nat)(zd:Da)(bytes:Nat):Fx:=⟨(.seq (.reg 0 [⟨(some 2),.mv,[(.n z)],0,none⟩] none [0]) (.seq (.seq (.reg 0 [⟨(some 3),.mv,[(.t 0)],0,none⟩,⟨(some 4),(.binN 1 .eql),[(.t 3),(.n z)],0,none⟩] none [0,4]) (.cond (.t 4) (.seq (.reg 0 [⟨(some 2),.mv,[(.n z)],0,none⟩] none [2]) .ret) .skip)) (.seq (.reg 1 [⟨(some 5),(.bsl z zd 0 []),[],0,none⟩,⟨(some 6),.mv,[(.t 0)],0,none⟩,⟨(some 7),(.app z bytes),[(.t 5),(.t 6)],0,none⟩,⟨(some 2),.mv,[(.t 7)],1,none⟩] none [2]) .ret))),[(.t 2)],true⟩
theorem YN (z bytes:Nat)(e:Da)(es:List Da):rH z bytes 0 0 [.sl .exact z [],.sl .some z (e::es)] [] []=bif oG (es.length+1) bytes then some (.arr 0 0 (0+(es.length+1)) z,[(0,.arr (e::es))],[])else none:=by
 simp only[rH,oB,Du,List.isEmpty_nil,Bool.or_true,cond_true,elems,q0,show Nat.beq z z=true from Nat.beq_refl z,Bool.true_or,Bool.true_and,List.isEmpty_cons,Bool.false_and,cond_false,List.length_nil,List.length_cons,List.nil_append,oG]
theorem NT (z bytes:Nat)(e:Da)(es:List Da)(k:KV):dE (fun _ _ _=>none) 0 (.app z bytes) 0 [.sl .exact z [],.sl .some z (e::es)] [.unborn] k=bif oG (es.length+1) bytes then k (.arr 0 0 (0+(es.length+1)) z) [.arr (e::es)]else none:=by
 have:dE (fun _ _ _=>none) 0 (.app z bytes) 0 [.sl .exact z [],.sl .some z (e::es)] [.unborn] k=match rH z bytes 0 0 [.sl .exact z [],.sl .some z (e::es)] [] []with
  |none=>none
  |some (v,ups,new)=>k v (grow (aA [.unborn] ups) new):=rfl
 rw[this,YN];cases oG (es.length+1) bytes<;>rfl
theorem Wa (z:Nat)(zd:Da)(bytes:Nat)(e:Da)(es:List Da):fh (fun _ _ _=>none) 0 (gE z zd bytes) [.sl .some z (e::es)] []=bif oG (es.length+1) bytes then some (.p (.slice z ((e::es).take (0+(es.length+1)))),[])else none:=by
 rw[←Dq];have h:HK (Wg (gE z zd bytes).body) (fun _ _ _=>none) 0 (gE z zd bytes).res (gE z zd bytes).fz [.sl .some z (e::es)] []=dE (fun _ _ _=>none) 0 (.app z bytes) 0 [.sl .exact z [],.sl .some z (e::es)] [.unborn] (fun v hp=>iC v fun v=>t9 hp fun hp=>W2 (.cons 2 v .nil) hp [.t 2] fun ds=>Ws 0 true ds hp):=by kernel_rfl
 rw[h,NT];cases oG (es.length+1) bytes
 ·rfl
 ·simp only[cond_true,ko,nj,Ds,Db];rfl
def pc (z:Nat)(zd:Da)(bytes:Nat):Fx:=⟨(.seq (.reg 0 [⟨(some 2),.mv,[(.n z)],0,none⟩] none [0]) (.seq (.seq (.reg 0 [⟨(some 3),.mv,[(.t 0)],0,none⟩,⟨(some 4),(.binN 1 .eql),[(.t 3),(.n z)],0,none⟩] none [0,4]) (.cond (.t 4) (.seq (.reg 0 [⟨(some 2),.mv,[(.n z)],0,none⟩] none [2]) (.gh (.own 2 z) .ret)) .skip)) (.seq (.reg 1 [⟨(some 5),(.bsl z zd 0 []),[],0,none⟩,⟨(some 6),.mv,[(.t 0)],0,none⟩,⟨(some 7),(.app z bytes),[(.t 5),(.t 6)],0,none⟩,⟨(some 2),.mv,[(.t 7)],1,none⟩] none [2]) .ret))),[(.t 2)],false⟩
theorem RO (z:Nat)(zd:Da)(bytes:Nat)(e:Da)(es:List Da):fh (fun _ _ _=>none) 0 (pc z zd bytes) [.sl .some z (e::es)] []=bif oG (es.length+1) bytes then some (.arr 0 0 (0+(es.length+1)) z,[.arr (e::es)])else none:=by
 rw[←Dq];have h:HK (Wg (pc z zd bytes).body) (fun _ _ _=>none) 0 (pc z zd bytes).res (pc z zd bytes).fz [.sl .some z (e::es)] []=dE (fun _ _ _=>none) 0 (.app z bytes) 0 [.sl .exact z [],.sl .some z (e::es)] [.unborn] (fun v hp=>iC v fun v=>t9 hp fun hp=>W2 (.cons 2 v .nil) hp [.t 2] fun ds=>Ws 0 false ds hp):=by kernel_rfl
 rw[h,NT];cases oG (es.length+1) bytes
 ·rfl
 ·simp only[cond_true,ko,nj,Ds,Db];rfl
theorem UH {P:Program}{G:ce}{tab:Nat→Option Fn}(h:uS P G tab){k:Nat}{g:List Da→Option (D×List Ob)}(hg:gC P G k g):uS P G (fun f=>bif Nat.beq f k then some (.prim g)else tab f):=by
 refine⟨fun f x hx=>?_,fun f g' hx=>?_,fun f g' x hx=>?_,fun f g' hx=>?_⟩
 ·cases hk:Nat.beq f k
  ·rw[hk]at hx;exact h.code f x hx
  ·rw[hk]at hx;simp at hx
 ·cases hk:Nat.beq f k
  ·rw[hk]at hx;exact h.prim f g' hx
  ·rw[hk]at hx;simp only[cond_true,lα,Fn.prim.injEq]at hx;subst hx;rw[lζ hk];exact hg
 ·cases hk:Nat.beq f k
  ·rw[hk]at hx;exact h.both f g' x hx
  ·rw[hk]at hx;simp at hx
 ·cases hk:Nat.beq f k
  ·rw[hk]at hx;exact h.any f g' hx
  ·rw[hk]at hx;simp at hx
theorem aea {P:Program}{G:ce}{tab:Nat→Option Fn}(h:uS P G tab){k:Nat}{g:List D→List Ob→Option (D×List Ob)}(hg:Xo P G k g):uS P G (fun f=>bif Nat.beq f k then some (.any g)else tab f):=by
 refine⟨fun f x hx=>?_,fun f g' hx=>?_,fun f g' x hx=>?_,fun f g' hx=>?_⟩
 ·cases hk:Nat.beq f k
  ·rw[hk]at hx;exact h.code f x hx
  ·rw[hk]at hx;simp at hx
 ·cases hk:Nat.beq f k
  ·rw[hk]at hx;exact h.prim f g' hx
  ·rw[hk]at hx;simp at hx
 ·cases hk:Nat.beq f k
  ·rw[hk]at hx;exact h.both f g' x hx
  ·rw[hk]at hx;simp at hx
 ·cases hk:Nat.beq f k
  ·rw[hk]at hx;exact h.any f g' hx
  ·rw[hk]at hx;simp only[cond_true,lα,Fn.any.injEq]at hx;subst hx;rw[lζ hk];exact hg
theorem ada {P:Program}{G:ce}(hmix:P.follows .mixedOrders=true){tab:Nat→Option Fn}{tabH:Nat→Option Hn}(h:uS P G tab)(hs:∀f,same (tabH f) (tab f))(n:Nat):dV P G (nG tabH n):=by
 rw[aae hs n];exact xK hmix h n
end Go.Ab
end
section
namespace Go.Ab
open Go
def aaw (x:Nat):List Nat→List Nat
 |[]=>[x]
 |y::r=>bif Nat.beq x y then y::r else bif Nat.blt x y then x::y::r else y::aaw x r
def af7 (x:Nat):List Nat→List Nat
 |[]=>[]
 |y::r=>bif Nat.beq x y then r else y::af7 x r
def aiR:List Nat→List Nat→List Nat
 |[],l=>l
 |x::r,l=>aaw x (aiR r l)
def dh (x:Nat):List Nat→Bool
 |[]=>false
 |y::r=>bif Nat.beq x y then true else dh x r
def ae8:A→List Nat→List Nat
 | .t n,l=>aaw n l
 |_,l=>l
def abk:List A→List Nat→List Nat
 |[],l=>l
 |a::r,l=>ae8 a (abk r l)
def aio (x:eW)(l:List Nat):List Nat:=
 abk x.as (match x.gd with
  |some (g,_)=>aaw g (match x.dst with|some d=>af7 d l|none=>l)
  |none=>(match x.dst with|some d=>af7 d l|none=>l))
def T4:List eW→List Nat→List Nat
 |[],out=>out
 |x::r,out=>aio x (T4 r out)
def TQ (t:Nat):List (Nat×eW)→Option eW
 |[]=>none
 |(s,x)::r=>bif Nat.beq s t then some x else TQ t r
def MA (d:List (Nat×eW)):Nat→Nat→Nat→Option (Nat×Nat)
 |0,_,_=>none
 |n+1,p,off=>match TQ p d with
  |none=>some (p,off)
  |some x=>match x.op,x.as with
   | .fa k,.t q::_=>MA d n q (off+k)
   | .mv,.t q::_=>MA d n q off
   | .nilck,.t q::_=>MA d n q off
   |_,_=>none
def ajt (d:List (Nat×eW))(x:eW):List Gh:=
 match x.op,x.as with
 | .app z _,.t t::_=>match TQ t d with
  |none=>[.own t z]
  |some y=>match y.op,y.as with
   | .mv,.t s::_=>match TQ s d with
    |none=>[.own s z]
    |some _=>[]
   | .load _ _,.t p::_=>match MA d 20 p 0 with
    |some (q,off)=>[.ownc q off z]
    |none=>[]
   |_,_=>[]
 |_,_=>[]
def aba:List (Nat×eW)→List eW→List Gh
 |_,[]=>[]
 |d,x::r=>ajt d x++aba (match x.dst with|some s=>(s,x)::d|none=>d) r
def yy:Co→List Gh
 | .reg _ ops _ _=>aba [] ops
 | .seq a b=>yy a++yy b
 | .cond _ a b=>yy a++yy b
 | .block _ b=>yy b
 | .loop _ b=>yy b
 | .gh _ b=>yy b
 |_=>[]
def ai6:Gh→Gh→Bool
 | .own s z,.own t y=>Nat.beq s t&&Nat.beq z y
 | .ownc s o z,.ownc t p y=>Nat.beq s t&&(Nat.beq o p&&Nat.beq z y)
 |_,_=>false
def aar (g:Gh):List Gh→Bool
 |[]=>false
 |h::r=>bif ai6 g h then true else aar g r
def abl:Gh→Nat
 | .own s _=>s
 | .ownc s _ _=>s
 | .frz s=>s
 | .frzc s _=>s
 | .keep _=>0
def Qz (h:List Nat):List Gh→List Gh→Co→Co
 |[],_,c=>c
 |g::r,seen,c=>bif dh (abl g) h&&!aar g seen then .gh g (Qz h r (g::seen) c)else Qz h r seen c
def ah6:List (Nat×List Nat)→Nat→List Nat
 |[],_=>[]
 |(j,l)::r,i=>bif Nat.beq j i then l else ah6 r i
def Cg (rl:List Nat):Co→List Nat→List (Nat×List Nat)→Co×List Nat
 | .skip,out,_=>(.skip,out)
 | .ret,_,_=>(.ret,rl)
 | .exit i,_,ex=>(.exit i,ah6 ex i)
 | .reg n ops ps _,out,_=>(.reg n ops ps out,T4 ops out)
 | .seq a b,out,ex=>(.seq (Cg rl a (Cg rl b out ex).2 ex).1 (Cg rl b out ex).1,(Cg rl a (Cg rl b out ex).2 ex).2)
 | .cond c t e,out,ex=>(.cond c (Cg rl t out ex).1 (Cg rl e out ex).1,ae8 c (aiR (Cg rl t out ex).2 (Cg rl e out ex).2))
 | .block i b,out,ex=>(.block i (Cg rl b out ((i,out)::ex)).1,(Cg rl b out ((i,out)::ex)).2)
 | .loop _ b,_,ex=>(Qz (Cg rl b [] ex).2 (yy b) [] (.loop (Cg rl b [] ex).2 (Cg rl b (Cg rl b [] ex).2 ex).1),(Cg rl b [] ex).2)
 | .gh g c,out,ex=>(.gh g (Cg rl c out ex).1,(Cg rl c out ex).2)
theorem EW (h:List Nat)(c:Co):∀(gs seen:List Gh),er (Qz h gs seen c)=er c
 |[],_=>rfl
 |g::r,seen=>by
  simp only[Qz];cases dh (abl g) h&&!aar g seen
  ·exact EW h c r seen
  ·exact EW h c r (g::seen)
theorem sQ (rl:List Nat):∀(c:Co) (out:List Nat) (ex:List (Nat×List Nat)),er (Cg rl c out ex).1=er c
 | .skip,_,_=>rfl
 | .ret,_,_=>rfl
 | .exit _,_,_=>rfl
 | .reg _ _ _ _,_,_=>rfl
 | .seq a b,out,ex=>by simp only[Cg,er,sQ rl a,sQ rl b]
 | .cond c t e,out,ex=>by simp only[Cg,er,sQ rl t,sQ rl e]
 | .block i b,out,ex=>by simp only[Cg,er,sQ rl b]
 | .loop _ b,out,ex=>by simp only[Cg,EW,er,sQ rl b]
 | .gh g c,out,ex=>by simp only[Cg,er,sQ rl c]
def ghAt:List Nat→Gh→Co→Co
 |[],g,c=> .gh g c
 |0::p,g,.seq a b=> .seq (ghAt p g a) b
 |1::p,g,.seq a b=> .seq a (ghAt p g b)
 |0::p,g,.cond c a b=> .cond c (ghAt p g a) b
 |1::p,g,.cond c a b=> .cond c a (ghAt p g b)
 |0::p,g,.block i b=> .block i (ghAt p g b)
 |0::p,g,.loop l b=> .loop l (ghAt p g b)
 |0::p,g,.gh h b=> .gh h (ghAt p g b)
 |_,_,c=>c
theorem ac9:∀(p:List Nat) (g:Gh) (c:Co),er (ghAt p g c)=er c:=by
 intro p g c;induction p,g,c using ghAt.induct<;>simp_all [ghAt,er]
def TU:List (List Nat×Gh)→Co→Co
 |[],c=>c
 |(p,g)::r,c=>ghAt p g (TU r c)
theorem Oo:∀(l:List (List Nat×Gh)) (c:Co),er (TU l c)=er c
 |[],_=>rfl
 |(p,g)::r,c=>by simp only[TU,ac9,Oo r]
theorem acl {P:Program}{G:ce}{raw:Nat→Bool}{N:Nat}{ops:List Oper}{draw:Bool}{x:Co}(h:VY P G raw N ops draw=some x):er x=x:=by
 unfold VY at h;split at h
 ·cases h
 ·cases draw
  ·simp only[cond_false,lα]at h;subst h;rfl
  ·simp only[cond_true]at h;cases he:km ops 0
   ·rw[he]at h;cases h
   ·rw[he]at h;simp only[cond_true]at h;split at h
    ·simp only[lα]at h;subst h;rfl
    ·cases h
theorem afF {P:Program}{G:ce}{raw:Nat→Bool}{N:Nat}:∀{c:Code} {x:Co},Kc P G raw N c=some x→er x=x:=by
 intro c;induction c<;>intro x h<;>simp only[Kc]at h
 all_goals try (first|(simp only[lα]at h;subst h;rfl)|(cases h;done)|exact acl h)
 case seq a b iha ihb=>
  split at h
  ·rename_i a' b' ha hb;simp only[lα]at h;subst h;simp only[er,iha ha,ihb hb]
  ·cases h
 case cond c t e iht ihe=>
  split at h
  ·rename_i c' t' e' hc ht he;simp only[lα]at h;subst h;simp only[er,iht ht,ihe he]
  ·cases h
 case block i b ih=>
  split at h
  ·rename_i b' hb;simp only[lα]at h;subst h;simp only[er,ih hb]
  ·cases h
 case loop b ih=>
  split at h
  ·rename_i b' hb;simp only[lα]at h;subst h;simp only[er,ih hb]
  ·cases h
def ahA:Rv→Nat
 | .t n=>n
 | .cell a _ _=>a
def Mw:List Rv→List Nat
 |[]=>[]
 |r::rs=>aaw (ahA r) (Mw rs)
structure Cfg where
 raw:Nat→Nat→Bool
 thaw:Nat→Bool
 ghs:Nat→List (List Nat×Gh)
 prim:Nat→Option (List Da→Option (D×List Ob))
def mq (P:Program)(G:ce)(s:Cfg)(f:Nat):Option Fx:=
 match P.funcs[f]? with
 |some fn=>match fn.body with
  |some c=>match Kc P G (s.raw f) fn.ntmps c,VZ P fn.results.toList with
   |some x,some rs=>some ⟨TU (s.ghs f) (Cg (Mw rs) x (Mw rs) []).1,rs,!s.thaw f⟩
   |_,_=>none
  |none=>none
 |none=>none
theorem AB {P:Program}{G:ce}{s:Cfg}{f:Nat}{x:Fx}(h:mq P G s f=some x):∃fn,P.funcs[f]?=some fn∧G1 P G (s.raw f) fn x:=by
 unfold mq at h;split at h
 ·rename_i fn hf;refine⟨fn,hf,?_⟩;split at h
  ·rename_i c hc;split at h
   ·rename_i y rs hy hr;simp only[lα]at h;subst h;refine⟨?_,hr⟩;rw[hc];simp only[hy,Oo,sQ,afF hy]
   ·cases h
  ·cases h
 ·cases h
def abp (P:Program)(G:ce)(s:Cfg)(f:Nat):Option Fn:=
 match s.prim f with
 |some g=>match mq P G s f with
  |some x=>some (.both g x)
  |none=>some (.prim g)
 |none=>match mq P G s f with
  |some x=>some (.code x)
  |none=>none
variable [Letters]
theorem ad9 {P : Program} {G : ce} {s : Cfg} (hn : P.funcs.toList.all (fun fn => !(fn.name == "runtime.NumGoroutine")) = true) (hp : ∀ f g, s.prim f = some g → gC P G f g) : uS P G (abp P G s) := by
 have hc : ∀ f y, mq P G s f = some y → ∃ fn raw, P.funcs[f]? = some fn ∧ G1 P G raw fn y ∧ (fn.name == "runtime.NumGoroutine") = false := by
  intro f y hy;obtain⟨fn,h1,h2⟩:=AB hy;refine⟨fn,s.raw f,h1,h2,?_⟩;have hm:fn∈P.funcs.toList:=by
   rw[Array.mem_toList_iff];exact Array.mem_of_getElem? h1
  simpa using List.all_eq_true.mp hn fn hm
 refine⟨fun f x h=>?_,fun f g h=>?_,fun f g x h=>?_,fun f g h=>?_⟩
 all_goals
  unfold abp at h;split at h
  ·rename_i g' hg;split at h
   ·rename_i y hy;first
     |(cases h;done)
     |(simp only[lα,Fn.both.injEq]at h;obtain⟨rfl,rfl⟩:=h;exact⟨hp f _ hg,hc f _ hy⟩)
   ·first
     |(cases h;done)
     |(simp only[lα,Fn.prim.injEq]at h;subst h;exact hp f _ hg)
  ·split at h
   ·rename_i y hy;first
     |(cases h;done)
     |(simp only[lα,Fn.code.injEq]at h;subst h;exact hc f _ hy)
   ·cases h
end Go.Ab
end
section
namespace Go.Ab
open Go
noncomputable section
structure Bx (α:Type) where
 un:α
def md (l t:Tm):Tm:=Tm.rec (motive:=fun _=>Tm) t (fun s d _ ih=> .cons s d ih) l
def fw:Tm→List Nat
 | .nil=>[]
 | .cons s _ r=>s::fw r
def AY (s:Nat):List Nat→Option Nat
 |[]=>none
 |x::r=>bif Nat.beq x s then some 0 else match AY s r with
  |some j=>some (j+1)
  |none=>none
def tlT (l:Tm):Tm:=Tm.rec (motive:=fun _=>Tm) .nil (fun _ _ r _=>r) l
def hdT (l:Tm):D:=Tm.rec (motive:=fun _=>D) .junk (fun _ d _ _=>d) l
def TG:Nat→Bx (Tm→D)
 |0=>⟨fun l=>hdT l⟩
 |1=>⟨fun l=>hdT (tlT l)⟩
 |2=>⟨fun l=>hdT (tlT (tlT l))⟩
 |n+3=>⟨fun l=>(TG n).un (tlT (tlT (tlT l)))⟩
theorem Of:∀(n:Nat) (l:Tm),(TG n).un l=Nat.rec (motive:=fun _=>Tm→D) (fun l=>hdT l) (fun _ ih l=>ih (tlT l)) n l
 |0,l=>rfl
 |1,l=>rfl
 |2,l=>rfl
 |n+3,l=>Of n _
theorem IP (s:Nat)(t:Tm):∀(l:Tm),get (md l t) s=match AY s (fw l)with
  |some j=>(TG j).un l
  |none=>get t s
 | .nil=>rfl
 | .cons x d r=>by
  show(bif Nat.beq x s then d else get (md r t) s)=_;simp only[fw,AY];cases h:Nat.beq x s
  ·simp only[cond_false];rw[IP s t r];cases AY s (fw r)with
   |none=>rfl
   |some j=>
    simp only[Of];rfl
  ·rfl
def PF (σ:List Nat):A→Bx (Tm→Tm→D)
 | .t n=>match AY n σ with
  |some j=>⟨fun _ l=>(TG j).un l⟩
  |none=>⟨fun t _=>sV t n⟩
 | .c x=>⟨fun _ _=> .p x⟩
 | .n z=>⟨fun _ _=> .sl .nil z []⟩
 | .f g=>⟨fun _ _=> .p (.fn g [])⟩
 | .g x=>⟨fun _ _=> .ip x 0⟩
theorem Dk (l t:Tm)(a:A):(PF (fw l) a).un t l=evA (md l t) a:=by
 cases a<;>try rfl
 rename_i n;show _=sV (md l t) n;rw[iu,IP];simp only[PF];cases AY n (fw l)with
 |none=>simp only[iu]
 |some j=>rfl
abbrev Op1:=Bx (Tm→Tm→D)
def A6 (as:List Op1)(t l:Tm):List D:=List.rec (motive:=fun _=>List D) [] (fun a _ ih=>a.un t l::ih) as
def opK (o:O)(kk:Nat)(as:List Op1):Bx (aL→Nat→Tm→Tm→List Ob→KV→R):=
 match o,as with
 | .mv,[a]=>⟨fun _ _ t l hp k=>k (a.un t l) hp⟩
 | .pick,[c,a,b]=>⟨fun _ _ t l hp k=>abb (c.un t l) (a.un t l) (b.un t l) fun v=>k v hp⟩
 | .bin op,[x,y]=>⟨fun _ _ t l hp k=>ab9 op (x.un t l) (y.un t l) fun v=>k v hp⟩
 | .un .not,[x]=>⟨fun _ _ t l hp k=>agV (x.un t l) fun v=>k v hp⟩
 | .ia esz,[x,i]=>⟨fun _ _ t l hp k=>iaG esz (x.un t l) (i.un t l) fun v=>k v hp⟩
 | .ix,[x,i]=>⟨fun _ _ t l hp k=>ixK (x.un t l) (i.un t l) fun v=>k v hp⟩
 | .fa off,[x]=>⟨fun _ _ t l hp k=>faG off (x.un t l) fun v=>k v hp⟩
 | .nilck,[x]=>⟨fun _ _ t l hp k=>aa3 (x.un t l) fun v=>k v hp⟩
 | .ext i,[x]=>⟨fun _ _ t l hp k=>adb i (x.un t l) fun v=>k v hp⟩
 | .len kd,[x]=>⟨fun _ _ t l hp k=>ain kd (x.un t l) hp fun v=>k v hp⟩
 | .call f raw,as=>⟨fun call _ t l hp k=>Tu call f raw (A6 as t l) hp k⟩
 | .alloc zs,[]=>⟨fun _ base _ _ hp k=>J7 base kk zs hp k⟩
 | .box n,[d]=>⟨fun _ base t l hp k=>acj base n kk (d.un t l) hp k⟩
 | .store n,[a,d]=>⟨fun call base t l hp k=>My call base n kk (a.un t l) (d.un t l) hp k⟩
 | .slStr lo hi,x::xs=>⟨fun _ _ t l hp k=>Mu lo hi (x.un t l) (A6 xs t l) fun v=>k v hp⟩
 | .fld off n agg,[x]=>⟨fun _ _ t l hp k=>aaj off n agg (x.un t l) fun v=>k v hp⟩
 | .build zs ps,vs=>⟨fun _ _ t l hp k=>Kb zs ps (A6 vs t l) fun v=>k v hp⟩
 | .app esz bytes,[a,b]=>⟨fun call base t l hp k=>ab3 call base esz bytes kk (a.un t l) (b.un t l) hp k⟩
 | .load 1 false,[x]=>⟨fun _ _ t l hp k=>aaL (x.un t l) hp fun v=>k v hp⟩
 | .load n true,[x]=>⟨fun _ _ t l hp k=>ae0 n true (x.un t l) hp fun v=>k v hp⟩
 |o,as=>⟨fun call base t l hp k=>Wy call base o kk (A6 as t l) hp k⟩
theorem SC (o:O)(kk:Nat)(as:List Op1)(call:aL)(base:Nat)(t l:Tm)(hp:List Ob)(k:KV):(opK o kk as).un call base t l hp k=Wy call base o kk (A6 as t l) hp k:=by
 unfold opK;split<;>first
  |rfl
  |(
    show _=Wy call base (.load _ true) kk [_] hp k;unfold Wy;split<;>simp_all)
def wy (σ:List Nat):List A→List Op1
 |[]=>[]
 |a::r=>PF σ a::wy σ r
theorem zr (t l:Tm):∀as,A6 (wy (fw l) as) t l=yj (md l t) as
 |[]=>rfl
 |a::r=>by
  show(PF (fw l) a).un t l::A6 (wy (fw l) r) t l=evA (md l t) a::yj (md l t) r;rw[Dk,zr t l r]
def opX (σ:List Nat)(x:eW):Bx (aL→Nat→Tm→Tm→List Ob→KV→R):=
 match x.gd with
 |none=>opK x.op x.k (wy σ x.as)
 |some (g,w)=>⟨fun call base t l hp k=>gG ((PF σ (.t g)).un t l) w (fun k=>(opK x.op x.k (wy σ x.as)).un call base t l hp k) hp k⟩
theorem aa7 (x:eW)(call:aL)(base:Nat)(t l:Tm)(hp:List Ob)(k:KV):(opX (fw l) x).un call base t l hp k=gdO x.gd (md l t) (fun k=>Wy call base x.op x.k (yj (md l t) x.as) hp k) hp k:=by
 unfold opX gdO;cases h:x.gd with
 |none=>simp only[SC,zr]
 |some p=>
  obtain⟨g,w⟩:=p;simp only[SC,zr,Dk];rfl
def SF (σ:List Nat):List Nat→Bx (Tm→Tm→Tm)
 |[]=>⟨fun _ _=> .nil⟩
 |s::r=>⟨fun t l=> .cons s ((PF σ (.t s)).un t l) ((SF σ r).un t l)⟩
theorem LQ (t l:Tm):∀out,(SF (fw l) out).un t l=nu out (md l t)
 |[]=>rfl
 |s::r=>by
  show Tm.cons s ((PF (fw l) (.t s)).un t l) ((SF (fw l) r).un t l)=_;rw[Dk,LQ t l r];rfl
def WS (out:List Nat):List Nat→List eW→Bx (aL→Nat→Tm→Tm→List Ob→K→R)
 |σ,[]=>⟨fun _ _ t l hp k=>k ((SF σ out).un t l) hp⟩
 |σ,x::r=>match x.dst with
  |some d=>⟨fun call base t l hp k=>(opX σ x).un call base t l hp fun v hp=>(WS out (d::σ) r).un call base t (.cons d v l) hp k⟩
  |none=>⟨fun call base t l hp k=>(opX σ x).un call base t l hp fun _ hp=>(WS out σ r).un call base t l hp k⟩
theorem Dl (out:List Nat)(call:aL)(base:Nat)(t:Tm)(k:K):∀(ops:List eW) (l:Tm) (hp:List Ob),(WS out (fw l) ops).un call base t l hp k=KI call base ops (md l t) hp fun tm hp=>k (nu out tm) hp
 |[],l,hp=>by
  show k ((SF (fw l) out).un t l) hp=k (nu out (md l t)) hp;rw[LQ]
 |x::r,l,hp=>by
  have step:KI call base (x::r) (md l t) hp (fun tm hp=>k (nu out tm) hp)=gdO x.gd (md l t) (fun k=>Wy call base x.op x.k (yj (md l t) x.as) hp k) hp fun v hp=>KI call base r (put x.dst v (md l t)) hp fun tm hp=>k (nu out tm) hp:=rfl
  rw[step];unfold WS;cases hd:x.dst with
  |none=>
   simp only[aa7];congr 1;funext v hp;exact Dl out call base t k r l hp
  |some d=>
   simp only[aa7];congr 1;funext v hp;exact Dl out call base t k r (.cons d v l) hp
structure gz where
 rs:List Nat
 wl:List (Nat×Bool)
 grow:Bool
 lim:Nat
def wH (l:List (Nat×Bool)):List Nat:=List.rec (motive:=fun _=>List Nat) [] (fun p _ ih=>bif p.2 then p.1::ih else ih) l
def cz (f:gz):ew:=⟨f.rs,wH f.wl,f.grow,f.lim⟩
def A7 (ids:List Nat)(hp:List Ob)(l:List (Nat×Ob)):List (Nat×Bool):=List.rec (motive:=fun _=>List (Nat×Bool)) [] (fun p _ ih=>(p.1,!(BF p.1 ids&&RW (bc hp p.1) p.2))::ih) l
theorem oP (ids:List Nat)(hp:List Ob):∀l,wH (A7 ids hp l)=oO ids hp l
 |[]=>rfl
 |(i,o)::r=>by
  show(bif !(BF i ids&&RW (bc hp i) o)then i::wH (A7 ids hp r)else wH (A7 ids hp r))=_;rw[oP ids hp r];simp only[oO];cases BF i ids&&RW (bc hp i) o<;>rfl
def adk (i:Nat)(l:List (Nat×Bool)):Bool:=List.rec (motive:=fun _=>Bool) false (fun p _ ih=>Bool.rec (motive:=fun _=>Bool) ih (Bool.rec (motive:=fun _=>Bool) ih true p.2) (Nat.beq p.1 i)) l
theorem TV (i:Nat):∀l,adk i l=(wH l).contains i
 |[]=>rfl
 |(j,b)::r=>by
  show Bool.rec (motive:=fun _=>Bool) (adk i r) (Bool.rec (motive:=fun _=>Bool) (adk i r) true b) (Nat.beq j i)=(bif b then j::wH r else wH r).contains i;rw[TV i r];cases b with
  |false=>cases Nat.beq j i<;>rfl
  |true=>
   simp only[cond_true,List.contains_cons];have:(i==j)=Nat.beq j i:=by rw[mδ,beq_iff_eq,Nat.beq_eq];exact eq_comm
   rw[this];cases Nat.beq j i<;>rfl
def Xk (a:gz)(i:Nat):Bool:=Bool.rec (motive:=fun _=>Bool) (Bool.rec (motive:=fun _=>Bool) false (Nat.ble a.lim i) a.grow) true (adk i a.wl)
theorem UT (a:gz)(i:Nat):Xk a i=wr (cz a) i:=by
 unfold Xk wr cz;rw[TV];cases(wH a.wl).contains i<;>cases a.grow<;>simp
def Ue (a:gz)(l:List Nat):Bool:=List.rec (motive:=fun _=>Bool) true (fun i _ ih=>Bool.rec (motive:=fun _=>Bool) ih false (Xk a i)) l
theorem Pg (a:gz):∀l,Ue a l=l.all (fun i=>!wr (cz a) i)
 |[]=>rfl
 |i::r=>by
  show Bool.rec (motive:=fun _=>Bool) (Ue a r) false (Xk a i)=_;rw[Pg a r,UT];simp only[List.all_cons];cases wr (cz a) i<;>rfl
def FG (a:gz)(l:List (Nat×Bool)):Bool:=List.rec (motive:=fun _=>Bool) true (fun p _ ih=>Bool.rec (motive:=fun _=>Bool) ih (Bool.rec (motive:=fun _=>Bool) ih false p.2) (Xk a p.1)) l
theorem IF (a:gz):∀l,FG a l=(wH l).all (fun i=>!wr (cz a) i)
 |[]=>rfl
 |(i,b)::r=>by
  show Bool.rec (motive:=fun _=>Bool) (FG a r) (Bool.rec (motive:=fun _=>Bool) (FG a r) false b) (Xk a i)=(bif b then i::wH r else wH r).all _;rw[IF a r,UT];cases b with
  |false=>cases wr (cz a) i<;>rfl
  |true=>
   simp only[cond_true,List.all_cons];cases wr (cz a) i<;>rfl
def RB (a b:gz):Bool:=
 Bool.rec (motive:=fun _=>Bool) false (Bool.rec (motive:=fun _=>Bool) false (Bool.rec (motive:=fun _=>Bool) false (Bool.rec (motive:=fun _=>Bool) false (Bool.rec (motive:=fun _=>Bool) true (Bool.rec (motive:=fun _=>Bool) true false b.grow) a.grow) (FG b a.wl)) (Ue b a.rs)) (FG a b.wl)) (Ue a b.rs)
theorem VP (a b:gz):RB a b=oz (cz a) (cz b):=by
 unfold RB oz;simp only[Pg,IF];show _=((cz b).rs.all _&&(wH b.wl).all _&&(cz a).rs.all _&&(wH a.wl).all _&&!(a.grow&&b.grow));simp only[cz];cases b.rs.all _<;>cases(wH b.wl).all _<;>cases a.rs.all _<;>cases(wH a.wl).all _<;>cases a.grow<;>cases b.grow<;>rfl
def pG (fs:List gz):List (Nat×Nat)→Bool
 |[]=>true
 |(i,j)::r=>match fs[i]?,fs[j]? with
  |some a,some b=>Bool.rec (motive:=fun _=>Bool) false (pG fs r) (RB a b)
  |_,_=>false
theorem qL (fs:List gz):∀ps,pG fs ps=fW (fs.map cz) ps
 |[]=>rfl
 |(i,j)::r=>by
  simp only[pG,fW,lχ,qL fs r];cases fs[i]? with
  |none=>rfl
  |some a=>
   cases fs[j]? with
   |none=>rfl
   |some b=>
    simp only[Option.map_some,VP];cases oz (cz a) (cz b)<;>rfl
abbrev KL:=D→List Ob→gz→R
def RL (call:aL)(f:Nat)(raw:Bool)(vs:List D)(hp:List Ob)(k:KL):R:=
 forceNs (iB hp bu (gJ vs []) []) fun ids=>
  forceDs (gM (lK ids) (Bool.rec (motive:=fun _=>List D) (vs.map norm) vs raw)) fun args=>forceHb (qY ids hp) fun hp'=>
   caseO (call f args hp') none fun ro=>Prod.rec (motive:=fun _=>R) (fun r out=>wJ (Nat.ble ids.length out.length)
    (iC (jT (back ids.length hp.length ids out.length) r) fun v=>forceHb (rt (back ids.length hp.length ids out.length) out) fun out'=>
     forceHb (grow (aA hp (ids.zip out')) (out'.drop ids.length)) fun hp2=>k v hp2 ⟨ids,A7 ids hp (ids.zip out'),!(out'.drop ids.length).isEmpty,hp.length⟩) none) ro
theorem V3 (call:aL)(f:Nat)(raw:Bool)(vs:List D)(hp:List Ob){k:KL}{q:KF}(h:∀v hp f,k v hp f=q v hp (cz f)):RL call f raw vs hp k=Ic call f raw vs hp q:=by
 unfold RL Ic;simp only[h,cz,oP]
def RJ (call:aL)(f:Nat)(raw:Bool)(vs:List D)(hp:List Ob)(k:KL):R:=
 Ib call f raw vs hp (RL call f raw vs hp k) fun v=>k v hp ⟨[],[],false,hp.length⟩
theorem V1 (call:aL)(f:Nat)(raw:Bool)(vs:List D)(hp:List Ob){k:KL}{q:KF}(h:∀v hp f,k v hp f=q v hp (cz f)):RJ call f raw vs hp k=NZ call f raw vs hp q:=by
 unfold RJ NZ;rw[V3 _ _ _ _ _ h];simp only[h];rfl
def TS (call:aL)(base:Nat)(o:O)(kk:Nat)(vs:List D)(hp:List Ob)(k:KL):R:=
 bif !(cZ o)||cO (bc hp (base+kk))then
  match qK call base o kk vs (bN o vs hp) ((bN o vs hp).map (bc hp)) hp.length with
  |none=>none
  |some (v,ups,new)=>k v (grow (aA hp ups) new) ⟨bif cZ o then(base+kk)::bN o vs hp else bN o vs hp,A7 (bN o vs hp) hp ups,!new.isEmpty,hp.length⟩
 else none
theorem aam (call:aL)(base:Nat)(o:O)(kk:Nat)(vs:List D)(hp:List Ob){k:KL}{q:KF}(h:∀v hp f,k v hp f=q v hp (cz f)):TS call base o kk vs hp k=Kz call base o kk vs hp q:=by
 unfold TS Kz;cases !(cZ o)||cO (bc hp (base+kk))with
 |false=>rfl
 |true=>
  simp only[cond_true];cases qK call base o kk vs (bN o vs hp) ((bN o vs hp).map (bc hp)) hp.length with
  |none=>rfl
  |some e=>
   obtain⟨v,ups,new⟩:=e;simp only[h,cz,oP]
def SA (o:O)(kk:Nat)(as:List Op1):Bx (aL→Nat→Tm→Tm→List Ob→KL→R):=
 match o with
 | .call f raw=>⟨fun call _ t l hp k=>RJ call f raw (A6 as t l) hp k⟩
 |o=>match pV o with
  |true=>⟨fun call base t l hp k=>(opK o kk as).un call base t l hp fun v hp'=>k v hp' ⟨bN o (A6 as t l) hp,[],false,hp.length⟩⟩
  |false=>⟨fun call base t l hp k=>TS call base o kk (A6 as t l) hp k⟩
theorem SB {o:O}(hs:pV o=true)(kk:Nat)(as:List Op1):SA o kk as=⟨fun call base t l hp k=>(opK o kk as).un call base t l hp fun v hp'=>k v hp' ⟨bN o (A6 as t l) hp,[],false,hp.length⟩⟩:=by
 cases o<;>first
  |rfl
  |(cases hs;done)
  |(simp only[SA,hs])
theorem R9 {call:aL}{base kk:Nat}{o:O}{vs:List D}{hp:List Ob}{q:KF}(hs:pV o=true):Cm call base o kk vs hp q=Wy call base o kk vs hp fun v hp'=>q v hp' (aeP o vs hp):=by
 cases o<;>first
  |rfl
  |(cases hs;done)
  |(simp only[Cm,hs])
theorem WR {o:O}(hs:pV o=false)(hc:∀f raw,o≠ .call f raw)(kk:Nat)(as:List Op1):SA o kk as=⟨fun call base t l hp k=>TS call base o kk (A6 as t l) hp k⟩:=by
 cases o<;>first
  |rfl
  |exact absurd rfl (hc _ _)
  |(cases hs;done)
  |(simp only[SA,hs])
theorem Wz {call:aL}{base kk:Nat}{o:O}{vs:List D}{hp:List Ob}{q:KF}(hs:pV o=false)(hc:∀f raw,o≠ .call f raw):Cm call base o kk vs hp q=Kz call base o kk vs hp q:=by
 cases o<;>first
  |rfl
  |exact absurd rfl (hc _ _)
  |(cases hs;done)
  |(simp only[Cm,hs])
theorem Uk (o:O)(kk:Nat)(as:List Op1)(call:aL)(base:Nat)(t l:Tm)(hp:List Ob){k:KL}{q:KF}(h:∀v hp f,k v hp f=q v hp (cz f)):(SA o kk as).un call base t l hp k=Cm call base o kk (A6 as t l) hp q:=by
 by_cases hc:∃f raw,o= .call f raw
 ·obtain⟨f,raw,rfl⟩:=hc;exact V1 _ _ _ _ _ h
 ·have hc:∀f raw,o≠ .call f raw:=fun f raw e=>hc ⟨f,raw,e⟩
  cases hs:pV o with
  |true=>
   rw[SB hs,R9 hs];show(opK o kk as).un call base t l hp _=_;rw[SC];congr 1;funext v hp';exact h _ _ _
  |false=>
   rw[WR hs hc,Wz hs hc];exact aam _ _ _ _ _ _ h
def adU (σ:List Nat)(x:eW):Bx (aL→Nat→Tm→Tm→List Ob→KL→R):=
 match x.gd with
 |none=>SA x.op x.k (wy σ x.as)
 |some (g,w)=>⟨fun call base t l hp k=>KB ((PF σ (.t g)).un t l) w ((SA x.op x.k (wy σ x.as)).un call base t l hp k) (k (.tup []) hp ⟨[],[],false,0⟩)⟩
theorem Ul (x:eW)(call:aL)(base:Nat)(t l:Tm)(hp:List Ob){k:KL}{q:KF}(hk:∀v hp f,k v hp f=q v hp (cz f)):(adU (fw l) x).un call base t l hp k=gdF x.gd (md l t) (fun k=>Cm call base x.op x.k (yj (md l t) x.as) hp k) hp q:=by
 unfold adU gdF;cases h:x.gd with
 |none=>simp only[Uk _ _ _ _ _ _ _ _ hk,zr]
 |some p=>
  obtain⟨g,w⟩:=p;simp only[Uk _ _ _ _ _ _ _ _ hk,zr,Dk,hk];rfl
def PG (out:List Nat):List Nat→List eW→Bx (aL→Nat→Tm→Tm→List Ob→List gz→(Tm→List Ob→List gz→R)→R)
 |σ,[]=>⟨fun _ _ t l hp fs k=>k ((SF σ out).un t l) hp fs.reverse⟩
 |σ,x::r=>match x.dst with
  |some d=>⟨fun call base t l hp fs k=>(adU σ x).un call base t l hp fun v hp f=>(PG out (d::σ) r).un call base t (.cons d v l) hp (f::fs) k⟩
  |none=>⟨fun call base t l hp fs k=>(adU σ x).un call base t l hp fun _ hp f=>(PG out σ r).un call base t l hp (f::fs) k⟩
theorem FS (out:List Nat)(call:aL)(base:Nat)(t:Tm){k:Tm→List Ob→List gz→R}{q:Tm→List Ob→List ew→R}(hk:∀tm hp fs,k tm hp fs=q tm hp (fs.map cz)):∀(ops:List eW) (l:Tm) (hp:List Ob) (fs:List gz),(PG out (fw l) ops).un call base t l hp fs k=xY call base ops (md l t) hp (fs.map cz) fun tm hp fs=>q (nu out tm) hp fs
 |[],l,hp,fs=>by
  show k ((SF (fw l) out).un t l) hp fs.reverse=q (nu out (md l t)) hp (fs.map cz).reverse;rw[LQ,hk,List.map_reverse]
 |x::r,l,hp,fs=>by
  have step:xY call base (x::r) (md l t) hp (fs.map cz) (fun tm hp fs=>q (nu out tm) hp fs)=gdF x.gd (md l t) (fun k=>Cm call base x.op x.k (yj (md l t) x.as) hp k) hp fun v hp f=>xY call base r (put x.dst v (md l t)) hp (f::fs.map cz) fun tm hp fs=>q (nu out tm) hp fs:=rfl
  rw[step];unfold PG;cases hd:x.dst with
  |none=>
   exact Ul _ _ _ _ _ _ fun v hp f=>FS out call base t hk r l hp (f::fs)
  |some d=>
   exact Ul _ _ _ _ _ _ fun v hp f=>FS out call base t hk r (.cons d v l) hp (f::fs)
def aiw (nal:Nat)(ops:List eW)(prs:Option (List (Nat×Nat)))(out:List Nat):Bx Sem:=
 match prs with
 |none=>match nal with
  |0=>⟨fun c _ _ tm hp kn _ _=>(WS out [] ops).un c hp.length tm .nil hp kn⟩
  |n+1=>⟨fun c _ _ tm hp kn _ _=>(WS out [] ops).un c hp.length tm .nil (xS (n+1) hp) kn⟩
 |some ps=>⟨fun c _ _ tm hp kn _ _=>(PG out [] ops).un c hp.length tm .nil (xS nal hp) [] fun tm hp fs=>wJ (pG fs ps) (kn tm hp) none⟩
theorem adY (nal:Nat)(ops:List eW)(prs:Option (List (Nat×Nat)))(out:List Nat):(aiw nal ops prs out).un=aix nal ops prs out:=by
 funext c n m tm hp kn ke kr
 cases prs with
 |none=>
  cases nal with
  |zero=>exact Dl out c hp.length tm kn ops .nil hp
  |succ k=>exact Dl out c hp.length tm kn ops .nil (xS (k+1) hp)
 |some ps=>exact FS out c hp.length tm (q:=fun tm hp fs=>wJ (fW fs ps) (kn tm hp) none) (fun tm hp fs=>by rw[qL]) ops .nil (xS nal hp) []
def sM:Co→Bx Sem
 | .skip=>⟨ae7⟩
 | .reg nal ops prs out=>aiw nal ops prs out
 | .seq a b=>⟨fun c n m tm hp kn ke kr=>(sM a).un c n m tm hp (fun tm hp=>(sM b).un c n m tm hp kn ke kr) ke kr⟩
 | .cond x t e=>⟨fun c n m tm hp kn ke kr=>TA (evA tm x) ((sM t).un c n m tm hp kn ke kr) ((sM e).un c n m tm hp kn ke kr)⟩
 | .block id b=>⟨fun c n m tm hp kn ke kr=>(sM b).un c n m tm hp kn (fun i tm hp=>wJ (Nat.beq i id) (kn tm hp) (ke i tm hp)) kr⟩
 | .loop live b=>⟨fun c n m tm hp _ ke kr=>Iz m live (fun tm hp k=>(sM b).un c n m tm hp k ke kr) n tm hp⟩
 | .exit id=>⟨aeN id⟩
 | .ret=>⟨aiy⟩
 | .gh g b=>⟨fun c n m tm hp kn ke kr=>ghK m g tm hp fun tm hp=>(sM b).un c n m tm hp kn ke kr⟩
theorem mj:∀c:Co,(sM c).un=Wg c
 | .skip=>rfl
 | .reg nal ops prs out=>adY nal ops prs out
 | .seq a b=>by
  show(fun(c:aL) (n m:Nat) (tm:Tm) (hp:List Ob) (kn:K) (ke:Nat→K) (kr:K)=>(sM a).un c n m tm hp (fun tm hp=>(sM b).un c n m tm hp kn ke kr) ke kr)=_;rw[mj a,mj b];rfl
 | .cond x t e=>by
  show(fun(c:aL) (n m:Nat) (tm:Tm) (hp:List Ob) (kn:K) (ke:Nat→K) (kr:K)=>TA (evA tm x) ((sM t).un c n m tm hp kn ke kr) ((sM e).un c n m tm hp kn ke kr))=_;rw[mj t,mj e];rfl
 | .block id b=>by
  show(fun(c:aL) (n m:Nat) (tm:Tm) (hp:List Ob) (kn:K) (ke:Nat→K) (kr:K)=>(sM b).un c n m tm hp kn (fun i tm hp=>wJ (Nat.beq i id) (kn tm hp) (ke i tm hp)) kr)=_;rw[mj b];rfl
 | .loop live b=>by
  show(fun(c:aL) (n m:Nat) (tm:Tm) (hp:List Ob) (_:K) (ke:Nat→K) (kr:K)=>Iz m live (fun tm hp k=>(sM b).un c n m tm hp k ke kr) n tm hp)=_;rw[mj b];rfl
 | .exit _=>rfl
 | .ret=>rfl
 | .gh g b=>by
  show(fun(c:aL) (n m:Nat) (tm:Tm) (hp:List Ob) (kn:K) (ke:Nat→K) (kr:K)=>ghK m g tm hp fun tm hp=>(sM b).un c n m tm hp kn ke kr)=_;rw[mj b];rfl
def aia:Option Fn→Option Hn
 |some (.code x)=>some (.code (sM x.body).un x.res x.fz)
 |some (.prim g)=>some (.prim g)
 |some (.both g x)=>some (.both g (sM x.body).un x.res x.fz)
 |some (.any g)=>some (.any g)
 |none=>none
theorem Wx (o:Option Fn):same (aia o) o:=by
 cases o with
 |none=>trivial
 |some x=>cases x with
  |code x=>exact⟨(mj _).symm,rfl,rfl⟩
  |prim g=>rfl
  |both g x=>exact⟨rfl,(mj _).symm,rfl,rfl⟩
  |any g=>rfl
def ae9 (P:Program)(G:ce)(s:Cfg)(f:Nat):Option Hn:=aia (abp P G s f)
theorem Xf (P:Program)(G:ce)(s:Cfg)(f:Nat):same (ae9 P G s f) (abp P G s f):=Wx _
end
end Go.Ab
end
