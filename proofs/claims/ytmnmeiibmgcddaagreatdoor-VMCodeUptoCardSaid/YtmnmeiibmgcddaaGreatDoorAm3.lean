import Derived.Test.YtmnmeiibmgcddaaGreatDoorAm0
import Derived.Test.YtmnmeiibmgcddaaGreatDoorAm2
import Derived.Lib.ItoaNum
import Derived.KernelRfl
set_option linter.all false
namespace Go.Ab
open Go
noncomputable section
section
abbrev R:=Option (D×List Ob)
abbrev K:=Tm->List Ob->R
abbrev KV:=D->List Ob->R
noncomputable section
def nP (tm:Tm)(t:Nat):D:=
 Tm.rec (motive:=fun _=>D) .junk (fun s d _ ih=>Bool.rec (motive:=fun _=>D) ih d (Nat.beq s t)) tm
def f0 (t:Nat):∀tm,nP tm t=get tm t
 | .nil=>rfl
 | .cons s d r=>by
  show Bool.rec (motive:=fun _=>D) (nP r t) d (Nat.beq s t)=bif Nat.beq s t then d else get r t
  rw[f0 t r];cases Nat.beq s t<;>rfl
def Zo (tm:Tm)(a:A):D:=
 A.rec (motive:=fun _=>D) (fun n=>nP tm n) (fun x=> .p x) (fun z=> .sl .nil z []) (fun g=> .p (.fn g [])) (fun x=> .ip x 0) a
def Vh (tm:Tm)(a:A):Zo tm a=ev tm a:=by
 cases a
 ·exact f0 _ tm
 all_goals rfl
def hE (d:D)(e:R)(k:Da->R):R:=
 D.rec (motive_1:=fun _=>R) (motive_2:=fun _=>PUnit.{1})
  (fun x=>k x) (fun _ _=>e) (fun _ _=>e) (fun _ _=>e) (fun _ _ _=>e) (fun _ _=>e) (fun _ _ _ _=>e) (fun _ _ _=>e) (fun _=>e) (fun _ _ _=>e) (fun _ _ _=>e) e ⟨⟩ (fun _ _ _ _=>⟨⟩) d
def q7 (x:Da)(e:R)(k:IntKind->Int->R):R:=
 Da.rec (motive_1:=fun _=>R) (motive_2:=fun _=>PUnit.{1})
  (fun _=>e) (fun i n=>k i n) (fun _=>e) (fun _ _=>e) (fun _ _ _=>e) e (fun _ _=>e) (fun _ _ _ _=>e) e (fun _ _ _=>e) e (fun _ _ _=>e) e (fun _ _ _=>e) (fun _ _=>e) ⟨⟩ (fun _ _ _ _=>⟨⟩) x
def q6 (x:Da)(e:R)(t f:R):R:=
 Da.rec (motive_1:=fun _=>R) (motive_2:=fun _=>PUnit.{1})
  (fun b=>Bool.rec (motive:=fun _=>R) f t b) (fun _ _=>e) (fun _=>e) (fun _ _=>e) (fun _ _ _=>e) e (fun _ _=>e) (fun _ _ _ _=>e) e (fun _ _ _=>e) e (fun _ _ _=>e) e (fun _ _ _=>e) (fun _ _=>e) ⟨⟩ (fun _ _ _ _=>⟨⟩) x
def oG (x:Da)(e:R)(k:LN->R):R:=
 Da.rec (motive_1:=fun _=>R) (motive_2:=fun _=>PUnit.{1})
  (fun _=>e) (fun _ _=>e) (fun s=>k s) (fun _ _=>e) (fun _ _ _=>e) e (fun _ _=>e) (fun _ _ _ _=>e) e (fun _ _ _=>e) e (fun _ _ _=>e) e (fun _ _ _=>e) (fun _ _=>e) ⟨⟩ (fun _ _ _ _=>⟨⟩) x
def io (x:Da)(e:R)(k:Nat->LD->R):R:=
 Da.rec (motive_1:=fun _=>R) (motive_2:=fun _=>PUnit.{1})
  (fun _=>e) (fun _ _=>e) (fun _=>e) (fun _ _=>e) (fun z es _=>k z es) e (fun _ _=>e) (fun _ _ _ _=>e) e (fun _ _ _=>e) e (fun _ _ _=>e) e (fun z es _=>k z es) (fun _ _=>e) ⟨⟩ (fun _ _ _ _=>⟨⟩) x
def caseO {α:Type}(o:Option α)(e:R)(k:α->R):R:=Option.rec (motive:=fun _=>R) e (fun x=>k x) o
def ql (b:Bool)(t e:R):R:=Bool.rec (motive:=fun _=>R) e t b
def lb (b:Bool)(t e:R):ql b t e=bif b then t else e:=by cases b<;>rfl
def bK (b:Bool)(k:D->R):R:=Bool.rec (motive:=fun _=>R) (k (.p (.bool false))) (k (.p (.bool true))) b
def ā (b:Bool)(k:D->R):bK b k=k (.p (.bool b)):=by cases b<;>rfl
def dL (call:aG)(base:Nat)(o:O)(kk:Nat)(vs:List D)(hp:List Ob)(k:KV):R:=
 bif !(ep o)||dw (aS hp (base+kk))then
  match oX call base o kk vs (bB o vs hp) ((bB o vs hp).map (aS hp)) hp.length with
  |none=>none
  |some (v,ups,new)=>k v (grow (aw hp ups) new)
 else none
def kc (k:IntKind):Nat:=IntKind.rec (motive:=fun _=>Nat) 0 1 2 3 4 5 6 7 k
def VO:∀i j:IntKind,Nat.beq (kc i) (kc j)=decide (i=j):=by
 intro i j;cases i<;>cases j<;>rfl
def gp (n:Int)(p q:Nat->R):R:=Int.rec (motive:=fun _=>R) (fun m=>p m) (fun m=>q m) n
def eqK (m n:Int)(k:Bool->R):R:=
 gp m (fun a=>gp n (fun b=>k (Nat.beq a b)) fun _=>k false) fun a=>gp n (fun _=>k false) fun b=>k (Nat.beq a b)
def Α (m n:Int)(k:Bool->R):eqK m n k=k (az m n):=by cases m<;>cases n<;>rfl
def ltK (m n:Int)(k:Bool->R):R:=
 gp m (fun a=>gp n (fun b=>k (Nat.blt a b)) fun _=>k false) fun a=>gp n (fun _=>k true) fun b=>k (Nat.blt b a)
def Ϛ (m n:Int)(k:Bool->R):ltK m n k=k (aK m n):=by cases m<;>cases n<;>rfl
def lim (i:IntKind):Nat:=IntKind.rec (motive:=fun _=>Nat) 0 0 2147483648 9223372036854775808 256 0 4294967296 18446744073709551616 i
def Wb (i:IntKind)(m:Nat)(k:D->R):R:=ql (Nat.blt m (lim i)) (k (.p (.int i (.ofNat m)))) (k (.p (.int i (ab i (.ofNat m)))))
def Mq (i:IntKind)(m:Nat)(h:Nat.blt m (lim i)=true):ab i (.ofNat m)= .ofNat m:=by
 cases i<;>simp only[lim]at h;case i8=>simp_all
 case i16=>simp_all
 case u16=>simp_all
 all_goals simp only[ab,h,cond_true]
def Ê (i:IntKind)(m:Nat)(k:D->R):Wb i m k=k (.p (.int i (ab i (.ofNat m)))):=by
 unfold Wb;cases h:Nat.blt m (lim i)
 ·rfl
 ·rw[Mq i m h];rfl
def pb (o:Option Da)(k:D->R):R:=caseO o none fun x=>k (.p x)
def nbK (b:Bool)(k:D->R):R:=Bool.rec (motive:=fun _=>R) (k (.p (.bool true))) (k (.p (.bool false))) b
def Wc (b:Bool)(k:D->R):nbK b k=k (.p (.bool (!b))):=by cases b<;>rfl
def ō (op:BinOp)(i:IntKind)(m n:Int)(e:R)(k:D->R):R:=
 BinOp.rec (motive:=fun _=>R)
  (gp m (fun a=>gp n (fun b=>Wb i (Nat.add a b) k) fun _=>e) fun _=>e)
  (gp m (fun a=>gp n (fun b=>ql (Nat.ble b a) (Wb i (Nat.sub a b) k) e) fun _=>e) fun _=>e)
  (gp m (fun a=>gp n (fun b=>Wb i (Nat.mul a b) k) fun _=>e) fun _=>e)
  e e e e e e e e
  (eqK m n fun b=>bK b k) (eqK m n fun b=>nbK b k) (ltK m n fun b=>bK b k) (ltK n m fun b=>nbK b k) (ltK n m fun b=>bK b k) (ltK m n fun b=>nbK b k) op
def Yo (op:BinOp)(i:IntKind)(m n:Int)(k:D->R):ō op i m n (pb (bin op (.p (.int i m)) (.p (.int i n))) k) k=pb (bin op (.p (.int i m)) (.p (.int i n))) k:=by
 cases op<;>simp only[ō,Α,Ϛ,ā,Wc,Ê];case add=>
  cases m<;>cases n<;>try rfl
  simp[gp,bin,gL,jX,pb,caseO]
 case sub=>
  cases m<;>cases n<;>try rfl
  rename_i a b;simp only[gp,lb];cases h:Nat.ble b a
  ·rfl
  ·have hle:=Nat.le_of_ble_eq_true h;simp only[bin,gL,jX,pb,caseO,if_true];grind
 case mul=>
  cases m<;>cases n<;>try rfl
  simp[gp,bin,gL,jX,pb,caseO]
 all_goals simp[bin,gL,jX,pb,caseO,aV]
def KP (a:LN):LN->Bool:=
 List.rec (motive:=fun _=>LN->Bool) (fun b=>List.rec (motive:=fun _=>Bool) true (fun _ _ _=>false) b)
  (fun x _ ih b=>List.rec (motive:=fun _=>Bool) false (fun y r _=>Bool.rec (motive:=fun _=>Bool) false (ih r) (Nat.beq x y)) b) a
def C6:∀a b,KP a b=cM a b
 |[],[]=>rfl
 |[],_::_=>rfl
 |_::_,[]=>rfl
 |x::a,y::b=>by
  show Bool.rec (motive:=fun _=>Bool) false (KP a b) (Nat.beq x y)=bif Nat.beq x y then cM a b else false
  rw[C6 a b];cases Nat.beq x y<;>rfl
def ϱ (op:BinOp)(a b:LN)(e:R)(k:D->R):R:=
 BinOp.rec (motive:=fun _=>R) e e e e e e e e e e e (bK (KP a b) k) (nbK (KP a b) k) e e e e op
def Þ (op:BinOp)(a b:LN)(k:D->R):ϱ op a b (pb (bin op (.p (.str a)) (.p (.str b))) k) k=pb (bin op (.p (.str a)) (.p (.str b))) k:=by
 cases op<;>simp only[ϱ,ā,Wc,C6]<;>simp[bin,p9,pb,caseO]
def Yl (op:BinOp)(x y:D)(k:D->R):R:=
 hE x none fun a=>Da.rec (motive_1:=fun _=>R) (motive_2:=fun _=>PUnit.{1})
  (fun _=>none) (fun i m=>hE y none fun b=>q7 b (pb (bin op x y) k) fun j n=>ql (Nat.beq (kc i) (kc j)) (ō op i m n (pb (bin op x y) k) k) (pb (bin op x y) k))
  (fun s=>hE y none fun b=>oG b none fun t=>ϱ op s t (pb (bin op x y) k) k)
  (fun _ _=>none) (fun _ _ _=>none) none (fun _ _=>none) (fun _ _ _ _=>none) none (fun _ _ _=>none) none (fun _ _ _=>none) none (fun _ _ _=>none) (fun _ _=>pb (bin op x y) k) ⟨⟩ (fun _ _ _ _=>⟨⟩) a
def PO (op:BinOp)(a:Da)(y:D)(h:B5 a=none)(hs:∀s,a≠ .str s):bin op (.p a) y=none:=by
 cases y<;>try (cases a<;>rfl)
 cases a<;>simp only[B5,reduceCtorEq]at h<;>first
  |rfl
  |simp_all
def Ym (op:BinOp)(x y:D)(k:D->R):Yl op x y k=pb (bin op x y) k:=by
 cases x<;>try rfl
 rename_i a;cases a;case int i m=>
  cases y<;>try rfl
  rename_i b;cases b<;>try rfl
  rename_i j n;show ql (Nat.beq (kc i) (kc j)) _ _=_;rw[VO,lb];by_cases h:i=j
  ·subst h;simp;exact Yo op i m n k
  ·simp[h]
 case str s=>
  cases y<;>try rfl
  rename_i b;cases b<;>try rfl
  exact Þ op s _ k
 case sym i s=>rfl
 all_goals (rw[PO op _ y rfl (by simp)];rfl)
def Wj (c a b:D)(k:D->R):R:=hE c none fun x=>q6 x none (k a) (k b)
def Ϟ (d:D)(k:D->R):R:=hE d none fun x=>q6 x none (k (.p (.bool false))) (k (.p (.bool true)))
def Lo {α:Type}(l:List α)(i:Nat)(k:α->R):R:=
 List.rec (motive:=fun _=>Nat->R) (fun _=>none) (fun x _ ih i=>Nat.rec (motive:=fun _=>R) (k x) (fun i _=>ih i) i) l i
def rQ {α:Type}(k:α->R):∀(l:List α) (i:Nat),Lo l i k=caseO l[i]? none k
 |[],i=>by rfl
 |x::r,0=>rfl
 |x::r,i+1=>by
  show Lo r i k=_;rw[rQ k r i];simp
def tl {α:Type}(l:List α):List α:=List.rec (motive:=fun _=>List α) [] (fun _ t _=>t) l
def tl4 {α:Type}(l:List α):List α:=tl (tl (tl (tl l)))
def æ {α:Type}(l:List α):List α:=tl4 (tl4 (tl4 (tl4 l)))
def Np {α:Type}(l:List α)(j:Nat):List α:=Nat.rec (motive:=fun _=>List α) l (fun _ ih=>æ ih) j
variable {α:Type}
def WP (l:List α):tl l=l.drop 1:=by cases l<;>rfl
def ç (l:List α):æ l=l.drop 16:=by
 simp only[æ,tl4,WP,mω]
def xW {α:Type}(l:List α):∀j,Np l j=l.drop (16*j)
 |0=>rfl
 |j+1=>by
  show æ (Np l j)=_;rw[ç,xW l j,mω];congr 1
def ZY {α:Type}(l:List α)(i:Nat)(k:α->R):R:=Lo (Np l (Nat.div i 16)) (Nat.mod i 16) k
def NE (l:List α)(i:Nat)(k:α->R):ZY l i k=caseO l[i]? none k:=by
 unfold ZY;rw[rQ,xW,List.getElem?_drop];congr 2;exact Nat.div_add_mod i 16
def atK (es:LD)(i:Int)(k:Da->R):R:=gp i (fun j=>ZY es j k) fun _=>none
def ŉ (es:LD)(i:Int)(k:Da->R):atK es i k=caseO (bI es i) none k:=by
 cases i with
 |ofNat j=>exact NE es j k
 |negSucc j=>rfl
def iaK (esz:Nat)(x i:D)(e:R)(k:D->R):R:=
 hE x e fun x=>io x none fun z es=>hE i none fun i=>q7 i none fun _ i=>ql (Nat.beq z esz) (atK es i fun y=>k (.ip y 0)) none
def ixK (x i:D)(k:D->R):R:=
 hE x none fun x=>oG x none fun s=>hE i none fun i=>q7 i none fun _ i=>gp i (fun j=>ZY s j fun b=>k (.p (.int .u8 (Int.ofNat b)))) fun _=>none
def faK (off:Nat)(d:D)(e:R)(k:D->R):R:=
 D.rec (motive_1:=fun _=>R) (motive_2:=fun _=>PUnit.{1})
  (fun _=>e) (fun _ _=>none) (fun _ _=>none) (fun id o=>k (.box id (o+off))) (fun id i o=>k (.el id i (o+off))) (fun x o=>k (.ip x (o+off)))
  (fun _ _ _ _=>none) (fun _ _ _=>none) (fun _=>none) (fun _ _ _=>none) (fun _ _ _=>none) none ⟨⟩ (fun _ _ _ _=>⟨⟩) d
def Wg (d:D)(e:R)(k:D->R):R:=
 D.rec (motive_1:=fun _=>R) (motive_2:=fun _=>PUnit.{1})
  (fun _=>e) (fun _ _=>none) (fun _ _=>none) (fun _ _=>k d) (fun _ _ _=>k d) (fun _ _=>k d)
  (fun _ _ _ _=>none) (fun _ _ _=>none) (fun _=>none) (fun _ _ _=>k d) (fun _ _ _=>k d) none ⟨⟩ (fun _ _ _ _=>⟨⟩) d
def kL (o:Ob)(e:R)(k:List D->R):R:=
 Ob.rec (motive:=fun _=>R) (fun cs=>k cs) (fun _=>e) (fun _=>e) (fun _ _=>e) (fun _ _=>e) e e (fun _ _=>e) (fun _=>e) (fun _ _=>e) o
def DF (d:D)(hp:List Ob)(e:R)(k:D->R):R:=
 D.rec (motive_1:=fun _=>R) (motive_2:=fun _=>PUnit.{1})
  (fun _=>e) (fun _ _=>none) (fun _ _=>none)
  (fun id off=>Lo hp id fun o=>kL o none fun cs=>Lo cs off k)
  (fun _ _ _=>e)
  (fun x off=>Lo (cells x) off fun x=>k (.p x))
  (fun _ _ _ _=>none) (fun _ _ _=>none) (fun _=>none) (fun _ _ _=>none) (fun _ _ _=>none) none ⟨⟩ (fun _ _ _ _=>⟨⟩) d
def Zq (i:Nat)(d:D)(k:D->R):R:=
 D.rec (motive_1:=fun _=>R) (motive_2:=fun _=>PUnit.{1})
  (fun _=>none) (fun _ _=>none) (fun ds _=>Lo ds i k) (fun _ _=>none) (fun _ _ _=>none) (fun _ _=>none)
  (fun _ _ _ _=>none) (fun _ _ _=>none) (fun _=>none) (fun _ _ _=>none) (fun _ _ _=>none) none ⟨⟩ (fun _ _ _ _=>⟨⟩) d
def HK {α:Type}(l:List α):Nat:=List.rec (motive:=fun _=>Nat) 0 (fun _ _ ih=>Nat.succ ih) l
def kT {α:Type}:∀l:List α,HK l=l.length
 |[]=>rfl
 |_::r=>congrArg Nat.succ (kT r)
def uf (d:D)(k:Nat->R):R:=
 D.rec (motive_1:=fun _=>R) (motive_2:=fun _=>PUnit.{1})
  (fun x=>io x none fun _ es=>k (HK es)) (fun _ _=>none) (fun _ _=>none) (fun _ _=>none) (fun _ _ _=>none) (fun _ _=>none) (fun _ _ len _=>k len) (fun _ _ es=>k (HK es)) (fun _=>none) (fun _ _ _=>none) (fun _ _ _=>none) none ⟨⟩ (fun _ _ _ _=>⟨⟩) d
def Q6 (d:D)(k:Nat->R):uf d k=caseO (sc d) none k:=by
 cases d<;>try rfl
 ·rename_i x;cases x<;>try rfl
  ·simp only[uf,io,kT,sc,caseO]
  ·simp only[uf,io,kT,sc,caseO]
 ·simp only[uf,kT,sc,caseO]
def À (n:Nat)(k:D->R):R:=Nat.rec (motive:=fun _=>R) (k (.p (.int .i64 (.ofNat 0)))) (fun m _=>k (.p (.int .i64 (.ofNat (Nat.succ m))))) n
def NN (n:Nat)(k:D->R):À n k=k (.p (BB n)):=by cases n<;>rfl
def ϓ (kd:Nat)(d:D)(e:R)(k:D->R):R:=
 Nat.rec (motive:=fun _=>R) (hE d none fun x=>oG x none fun s=>À (HK s) k)
  (fun j _=>Nat.rec (motive:=fun _=>R) (uf d fun n=>À n k) (fun _ _=>e) j) kd
def Is (cs:List α)(off:Nat):sub cs off 1=cs[off]?.map fun x=>[x]:=by
 unfold sub;cases h:Nat.ble (off+1) cs.length
 ·have:cs.length<=off:=by
   rcases mδ off cs.length with h1|h1
   ·rw[Nat.ble_eq.mpr h1]at h;cases h
   ·exact h1
  simp_all
 ·have h1:off<cs.length:=Nat.ble_eq.mp h;simp[lη h1,List.take_one,List.head?_drop]
def jg (o:Option fF)(k:D->R):R:=caseO o none fun e=>k e.1
def lL:O->Bool
 | .mv=>true
 | .pick=>true
 | .build _ _=>true
 | .load _ _=>true
 | .nilck=>true
 | .bin _=>true
 | .binB _=>true
 | .binN _ _=>true
 | .binS _ _=>true
 | .un _=>true
 | .conv _=>true
 | .mkif _=>true
 | .mkfn _=>true
 | .slStr _ _=>true
 | .fa _=>true
 | .fld _ _ _=>true
 | .ia _=>true
 | .iaa _ _=>true
 | .ix=>true
 | .lkp _ _ _=>true
 | .ext _=>true
 | .len _=>true
 | .cap=>true
 | .min2=>true
 | .max2=>true
 | .same=>true
 | .assertT _ _ _=>true
 | .b2s=>true
 | .s2b=>true
 |_=>false
def IA (o:Option fF):Prop:=∀e,o=some e->e.2=([],[])
def yV:IA none:=by intro e h;cases h
def BZ (d:D):IA (val d):=by intro e h;cases h;rfl
def LR (o:Option Da):IA (kf o):=by cases o<;>(intro e h;cases h;try rfl)
def LQ (kt:TypeDesc)(z:D)(ok:Bool)(ks:LD)(ws:List D)(k:D):IA (QE kt z ok ks ws k):=by
 unfold QE;repeat' split
 all_goals first
  |exact yV
  |exact BZ _
def uN {call:aG}{base kk:Nat}{o:O}{vs:List D}{ids:LN}{obs:List Ob}{len:Nat}(h:lL o=true):IA (oX call base o kk vs ids obs len):=by
 cases o<;>simp only[lL,Bool.false_eq_true]at h<;>
  simp only[oX,d_,Bb,pX,gn,pY,CG,TM,TN,Ba,aUn,MW,MY,Gv,Gu,mz,Ŀ,Gq,MX,Gr,X8,xD,Ko,PI,TS,Gt,Gs,nw,PF,TU]<;>
  (repeat' (first|exact yV|exact BZ _|exact LR _|exact LQ _ _ _ _ _ _|split|(simp only[cond_eq_ite])))
def uM {o:O}(h:lL o=true):ep o=false:=by
 cases o<;>simp_all [lL,ep]
section eqs
variable {call:aG} {base kk:Nat} {hp:List Ob} {k:KV}
def cZ {o:O}{vs:List D}(h:lL o=true):dL call base o kk vs hp k=jg (oX call base o kk vs (bB o vs hp) ((bB o vs hp).map (aS hp)) hp.length) fun v=>k v hp:=by
 have hq:=uN (call:=call) (base:=base) (kk:=kk) (vs:=vs) (ids:=bB o vs hp) (obs:=(bB o vs hp).map (aS hp)) (len:=hp.length) h;simp only[dL,uM h,cond_true];cases ha:oX call base o kk vs (bB o vs hp) ((bB o vs hp).map (aS hp)) hp.length with
 |none=>rfl
 |some e=>
  obtain⟨v,ups,new⟩:=e;have:=hq _ ha;obtain⟨rfl,rfl⟩:=this;rfl
def P7 {o:Option Da}{k:D->R}:jg (kf o) k=pb o k:=by cases o<;>rfl
def Yp (op:BinOp)(x y:D):dL call base (.bin op) kk [x,y] hp k=Yl op x y fun v=>k v hp:=by
 rw[Ym,cZ rfl];exact P7
def Wn (c a b:D):dL call base .pick kk [c,a,b] hp k=Wj c a b fun v=>k v hp:=by
 cases c<;>try rfl
 rename_i x;cases x<;>try rfl
 rename_i b;cases b<;>rfl
def Ë (x:D):dL call base (.un .not) kk [x] hp k=Ϟ x fun v=>k v hp:=by
 cases x<;>try rfl
 rename_i x;cases x<;>try rfl
 rename_i b;cases b<;>rfl
def Φ (esz:Nat)(x i:D):dL call base (.ia esz) kk [x,i] hp k=iaK esz x i (jg (MX esz [x,i]) fun v=>k v hp) fun v=>k v hp:=by
 rw[cZ rfl];show jg (MX esz [x,i]) (fun v=>k v hp)=_;cases x<;>try rfl
 rename_i x;cases x<;>try rfl
 all_goals
  rename_i z es;cases i<;>try rfl
  rename_i i;cases i<;>try rfl
  rename_i q i;simp only[MX,iaK,hE,io,q7,ŉ];cases Nat.beq z esz
  ·rfl
  ·cases bI es i<;>rfl
def Ϗ (x i:D):dL call base .ix kk [x,i] hp k=ixK x i fun v=>k v hp:=by
 rw[cZ rfl];show jg (X8 [x,i]) (fun v=>k v hp)=_;cases x<;>try rfl
 rename_i x;cases x<;>try rfl
 rename_i s;cases i<;>try rfl
 rename_i i;cases i<;>try rfl
 rename_i q i;simp only[X8,ixK,hE,oG,q7];cases i with
 |negSucc j=>rfl
 |ofNat j=>
  simp only[gp,NE];have h:(bif aV 0 (Int.ofNat j)then s[(Int.ofNat j).toNat]? else none)=s[j]?:=rfl;rw[h];cases s[j]?<;>rfl
def Δ (off:Nat)(x:D):dL call base (.fa off) kk [x] hp k=faK off x (jg (Ŀ off [x]) fun v=>k v hp) fun v=>k v hp:=by
 rw[cZ rfl];cases x<;>rfl
def QI (x:D):dL call base .nilck kk [x] hp k=Wg x (jg (pY [x]) fun v=>k v hp) fun v=>k v hp:=by
 rw[cZ rfl];cases x<;>rfl
def Zr (i:Nat)(x:D):dL call base (.ext i) kk [x] hp k=Zq i x fun v=>k v hp:=by
 rw[cZ rfl];cases x<;>try rfl
 rename_i ds;show jg (Ko i [.tup ds]) (fun v=>k v hp)=_;simp only[Ko,Zq,rQ];cases ds[i]?<;>rfl
def Á (kd:Nat)(x:D):dL call base (.len kd) kk [x] hp k=ϓ kd x (jg (PI kd [x] (bB (.len kd) [x] hp) ((bB (.len kd) [x] hp).map (aS hp))) fun v=>k v hp) fun v=>k v hp:=by
 rw[cZ rfl];match kd with
 |0=>
  cases x<;>try rfl
  rename_i x;cases x<;>try rfl
  simp only[ϓ,NN,kT];rfl
 |1=>
  show jg (match sc x with|some n=>val (.p (BB n))|none=>none) _=uf x fun n=>À n fun v=>k v hp
  simp only[Q6,NN];cases sc x<;>rfl
 |n+2=>rfl
def QF (x:D):dL call base (.load 1 false) kk [x] hp k=DF x hp (jg (gn 1 false [x] ((dids x).map (aS hp))) fun v=>k v hp) fun v=>k v hp:=by
 rw[cZ rfl];cases x<;>try rfl
 ·rename_i id off;show jg (gn 1 false [.box id off] [aS hp id]) (fun v=>k v hp)=_;simp only[DF,rQ,gn,aS,mξ];cases hp[id]? with
  |none=>rfl
  |some o=>
   cases o<;>try rfl
   rename_i cs;simp only[Option.getD_some,Is,caseO,kL];cases cs[off]?<;>rfl
 ·rename_i x off;show jg (gn 1 false [.ip x off] []) (fun v=>k v hp)=_;simp only[DF,rQ,gn,Is];cases(cells x)[off]?<;>rfl
end eqs
end
end
section
def forceN (m:Nat)(k:Nat->R):R:=Nat.rec (motive:=fun _=>R) (k 0) (fun m _=>k (Nat.succ m)) m
def jG (m:Nat)(k:Nat->R):forceN m k=k m:=by cases m<;>rfl
def De (n:Int)(k:Int->R):R:=gp n (fun m=>forceN m fun m=>k (.ofNat m)) fun m=>forceN m fun m=>k (.negSucc m)
def Bw (n:Int)(k:Int->R):De n k=k n:=by cases n<;>simp only[De,gp,jG]
def forceNs (l:LN)(k:LN->R):R:=
 List.rec (motive:=fun _=>(LN->R)->R) (fun k=>k []) (fun x _ ih k=>forceN x fun x=>ih fun r=>k (x::r)) l k
def j3:∀(l:LN) (k:LN->R),forceNs l k=k l
 |[],k=>rfl
 |x::r,k=>by
  show forceN x (fun x=>forceNs r fun r=>k (x::r))=_;rw[jG,j3 r]
def oJ (x:Da)(k:Da->R):R:=
 Da.rec (motive_1:=fun _=>R) (motive_2:=fun _=>PUnit.{1})
  (fun b=>Bool.rec (motive:=fun _=>R) (k (.bool false)) (k (.bool true)) b) (fun i n=>De n fun n=>k (.int i n)) (fun s=>k (.str s)) (fun cs _=>k (.agg cs)) (fun z es _=>k (.slice z es)) (k .nilptr) (fun x _=>k (.ptr x)) (fun ks vs _ _=>k (.map ks vs)) (k .nilmap) (fun f cs _=>k (.fn f cs)) (k .nilfn) (fun t x _=>k (.iface t x)) (k .nilif) (fun z es _=>k (.sliceE z es)) (fun i s=>k (.sym i s)) ⟨⟩ (fun _ _ _ _=>⟨⟩) x
def qi (x:Da)(k:Da->R):oJ x k=k x:=by
 cases x<;>try rfl
 ·rename_i b;cases b<;>rfl
 ·simp only[oJ,Bw]
def f7 (d:D)(k:D->R):R:=
 D.rec (motive_1:=fun _=>R) (motive_2:=fun _=>PUnit.{1})
  (fun x=>oJ x fun x=>k (.p x)) (fun cs _=>k (.agg cs)) (fun ds _=>k (.tup ds)) (fun id off=>forceN id fun id=>forceN off fun off=>k (.box id off)) (fun id i off=>forceN id fun id=>forceN i fun i=>forceN off fun off=>k (.el id i off)) (fun x off=>k (.ip x off))
  (fun id lo len z=>forceN id fun id=>forceN lo fun lo=>forceN len fun len=>k (.arr id lo len z)) (fun g z es=>k (.sl g z es)) (fun id=>forceN id fun id=>k (.map id)) (fun f cs _=>k (.fn f cs)) (fun t d _=>k (.iface t d)) (k .junk) ⟨⟩ (fun _ _ _ _=>⟨⟩) d
def lB (d:D)(k:D->R):f7 d k=k d:=by
 cases d<;>simp only[f7,jG,qi]
def forceTm (tm:Tm)(k:Tm->R):R:=
 Tm.rec (motive:=fun _=>(Tm->R)->R) (fun k=>k .nil) (fun s d _ ih k=>f7 d fun d=>ih fun r=>k (.cons s d r)) tm k
def qj:∀(tm:Tm) (k:Tm->R),forceTm tm k=k tm
 | .nil,k=>rfl
 | .cons s d r,k=>by
  show f7 d (fun d=>forceTm r fun r=>k (.cons s d r))=_;rw[lB,qj r]
def forceDs (ds:List D)(k:List D->R):R:=
 List.rec (motive:=fun _=>(List D->R)->R) (fun k=>k []) (fun d _ ih k=>f7 d fun d=>ih fun r=>k (d::r)) ds k
def f9:∀(ds:List D) (k:List D->R),forceDs ds k=k ds
 |[],k=>rfl
 |d::r,k=>by
  show f7 d (fun d=>forceDs r fun r=>k (d::r))=_;rw[lB,f9 r]
def rq (ds:LD)(k:LD->R):R:=
 List.rec (motive:=fun _=>(LD->R)->R) (fun k=>k []) (fun d _ ih k=>oJ d fun d=>ih fun r=>k (d::r)) ds k
def mD:∀(ds:LD) (k:LD->R),rq ds k=k ds
 |[],k=>rfl
 |d::r,k=>by
  show oJ d (fun d=>rq r fun r=>k (d::r))=_;rw[qi,mD r]
def wi (o:Ob)(k:Ob->R):R:=
 Ob.rec (motive:=fun _=>R) (fun cs=>forceDs cs fun cs=>k (.box cs)) (fun es=>rq es fun es=>k (.arr es)) (fun es=>k (.fz es)) (fun ks vs=>k (.map ks vs)) (fun ks vs=>k (.fzm ks vs)) (k .dead) (k .unborn) (fun ks vs=>forceDs vs fun vs=>k (.mapd ks vs)) (fun es=>k (.byt es)) (fun b es=>k (.may b es)) o
def KU (o:Ob)(k:Ob->R):wi o k=k o:=by
 cases o<;>simp only[wi,f9,mD]
def oL (hp:List Ob)(k:List Ob->R):R:=
 List.rec (motive:=fun _=>(List Ob->R)->R) (fun k=>k []) (fun o _ ih k=>wi o fun o=>ih fun r=>k (o::r)) hp k
def j2:∀(hp:List Ob) (k:List Ob->R),oL hp k=k hp
 |[],k=>rfl
 |o::r,k=>by
  show wi o (fun o=>oL r fun r=>k (o::r))=_;rw[KU,j2 r]
def wh (o:Ob)(k:Ob->R):R:=
 Ob.rec (motive:=fun _=>R) (fun cs=>forceDs cs fun cs=>k (.box cs)) (fun es=>k (.arr es)) (fun es=>k (.fz es)) (fun ks vs=>k (.map ks vs)) (fun ks vs=>k (.fzm ks vs)) (k .dead) (k .unborn) (fun ks vs=>forceDs vs fun vs=>k (.mapd ks vs)) (fun es=>k (.byt es)) (fun b es=>k (.may b es)) o
def KT (o:Ob)(k:Ob->R):wh o k=k o:=by
 cases o<;>simp only[wh,f9]
def forceHb (hp:List Ob)(k:List Ob->R):R:=
 List.rec (motive:=fun _=>(List Ob->R)->R) (fun k=>k []) (fun o _ ih k=>wh o fun o=>ih fun r=>k (o::r)) hp k
def j1:∀(hp:List Ob) (k:List Ob->R),forceHb hp k=k hp
 |[],k=>rfl
 |o::r,k=>by
  show wh o (fun o=>forceHb r fun r=>k (o::r))=_;rw[KT,j1 r]
def Æ (l:LN)(x:Nat):Bool:=List.rec (motive:=fun _=>Bool) false (fun y _ ih=>Bool.rec (motive:=fun _=>Bool) ih true (Nat.beq x y)) l
def NS (x:Nat):∀l,Æ l x=l.contains x
 |[]=>rfl
 |y::r=>by
  show Bool.rec (motive:=fun _=>Bool) (Æ r x) true (Nat.beq x y)=_;rw[NS x r,List.contains_cons];have:(x==y)=Nat.beq x y:=by rw[mι,beq_iff_eq,Nat.beq_eq]
  rw[this];cases Nat.beq x y<;>rfl
def Oh (l:LN)(x:Nat):LN:=List.rec (motive:=fun _=>LN) [x] (fun y _ ih=>y::ih) l
def Jb (x:Nat):∀l,Oh l x=l++[x]
 |[]=>rfl
 |y::r=>by
  show y::Oh r x=_;rw[Jb x r];rfl
def H0 (hp:List Ob)(i:Nat):Ob:=List.rec (motive:=fun _=>Nat->Ob) (fun _=> .dead) (fun o _ ih i=>Nat.rec (motive:=fun _=>Ob) o (fun i _=>ih i) i) hp i
def lg:∀(hp:List Ob) (i:Nat),H0 hp i=hp.getD i .dead
 |[],i=>by rfl
 |o::r,0=>rfl
 |o::r,i+1=>by
  show H0 r i=_;rw[lg r i];simp
def Bm (d:D):LN->LN:=
 D.rec (motive_1:=fun _=>LN->LN) (motive_2:=fun _=>LN->LN)
  (fun _ ws=>ws) (fun _ ih ws=>ih ws) (fun _ ih ws=>ih ws) (fun id _ ws=>id::ws) (fun id _ _ ws=>id::ws) (fun _ _ ws=>ws)
  (fun id _ _ _ ws=>id::ws) (fun _ _ _ ws=>ws) (fun id ws=>id::ws) (fun _ _ ih ws=>ih ws) (fun _ _ ih ws=>ih ws) (fun ws=>ws) (fun ws=>ws) (fun _ _ ihd ihr ws=>ihd (ihr ws)) d
def dX (ds:List D)(ws:LN):LN:=List.rec (motive:=fun _=>LN) ws (fun d _ ih=>Bm d ih) ds
mutual
def ra:∀(d:D) (ws:LN),Bm d ws=dids d++ws
 | .p _,ws=>rfl
 | .agg cs,ws=>rc cs ws
 | .tup cs,ws=>rc cs ws
 | .box _ _,ws=>rfl
 | .el _ _ _,ws=>rfl
 | .ip _ _,ws=>rfl
 | .arr _ _ _ _,ws=>rfl
 | .sl _ _ _,ws=>rfl
 | .map _,ws=>rfl
 | .fn _ cs,ws=>rc cs ws
 | .iface _ d,ws=>ra d ws
 | .junk,ws=>rfl
def rc:∀(ds:List D) (ws:LN),D.rec_1 (motive_1:=fun _=>LN->LN) (motive_2:=fun _=>LN->LN)
  (fun _ ws=>ws) (fun _ ih ws=>ih ws) (fun _ ih ws=>ih ws) (fun id _ ws=>id::ws) (fun id _ _ ws=>id::ws) (fun _ _ ws=>ws)
  (fun id _ _ _ ws=>id::ws) (fun _ _ _ ws=>ws) (fun id ws=>id::ws) (fun _ _ ih ws=>ih ws) (fun _ _ ih ws=>ih ws) (fun ws=>ws) (fun ws=>ws) (fun _ _ ihd ihr ws=>ihd (ihr ws)) ds ws=dids.didsL ds++ws
 |[],ws=>rfl
 |d::r,ws=>by
  show Bm d (D.rec_1 (motive_1:=fun _=>LN->LN) (motive_2:=fun _=>LN->LN) _ _ _ _ _ _ _ _ _ _ _ _ _ _ r ws)=_;rw[ra d,rc r];simp only[dids.didsL,lρ]
end
def ed (ws:LN):∀ds,dX ds ws=dids.didsL ds++ws
 |[]=>rfl
 |d::r=>by
  show Bm d (dX r ws)=_;rw[ra,ed ws r];simp only[dids.didsL,lρ]
def yJ (o:Ob)(ws:LN):LN:=Ob.rec (motive:=fun _=>LN) (fun cs=>dX cs ws) (fun _=>ws) (fun _=>ws) (fun _ _=>ws) (fun _ _=>ws) ws ws (fun _ vs=>dX vs ws) (fun _=>ws) (fun _ _=>ws) o
def BT (o:Ob)(ws:LN):yJ o ws=hO o++ws:=by
 cases o<;>first|rfl|exact ed ws _
def eQ (hp:List Ob)(n:Nat):LN->LN->LN:=
 Nat.rec (motive:=fun _=>LN->LN->LN) (fun _ acc=>acc)
  (fun _ ih ws acc=>List.rec (motive:=fun _=>LN) acc (fun id ws _=>Bool.rec (motive:=fun _=>LN) (ih (yJ (H0 hp id) ws) (Oh acc id)) (ih ws acc) (Æ acc id)) ws) n
def dF (hp:List Ob):∀(n:Nat) (ws acc:LN),eQ hp n ws acc=cF hp n ws acc
 |0,ws,acc=>rfl
 |n+1,[],acc=>rfl
 |n+1,id::ws,acc=>by
  show Bool.rec (motive:=fun _=>LN) (eQ hp n (yJ (H0 hp id) ws) (Oh acc id)) (eQ hp n ws acc) (Æ acc id)=_;rw[dF hp n,dF hp n,NS,Jb,BT,lg];simp only[cF];cases acc.contains id<;>simp
def ji (ids:LN)(id:Nat):Option Nat:=
 List.rec (motive:=fun _=>Nat->Option Nat) (fun _=>none) (fun x _ ih n=>Bool.rec (motive:=fun _=>Option Nat) (ih (Nat.succ n)) (some n) (Nat.beq x id)) ids 0
def jz (ids:LN):ji ids=idx ids:=by
 funext id
 have go:∀(l:LN) (n:Nat),List.rec (motive:=fun _=>Nat->Option Nat) (fun _=>none) (fun x _ ih n=>Bool.rec (motive:=fun _=>Option Nat) (ih (Nat.succ n)) (some n) (Nat.beq x id)) l n=idx.go id l n:=by
  intro l;induction l with
  |nil=>intro n;rfl
  |cons x r ih=>
   intro n;show Bool.rec (motive:=fun _=>Option Nat) _ (some n) (Nat.beq x id)=bif Nat.beq x id then some n else idx.go id r (n+1)
   rw[<-ih (n+1)];cases Nat.beq x id<;>rfl
 exact go ids 0
def gO (σ:Nat->Option Nat)(d:D):D:=
 D.rec (motive_1:=fun _=>D) (motive_2:=fun _=>List D)
  (fun x=> .p x) (fun _ ih=> .agg ih) (fun _ ih=> .tup ih) (fun id off=>Option.rec (motive:=fun _=>D) .junk (fun j=> .box j off) (σ id)) (fun id i off=>Option.rec (motive:=fun _=>D) .junk (fun j=> .el j i off) (σ id)) (fun x off=> .ip x off)
  (fun id lo len z=>Option.rec (motive:=fun _=>D) .junk (fun j=> .arr j lo len z) (σ id)) (fun g z es=> .sl g z es) (fun id=>Option.rec (motive:=fun _=>D) .junk (fun j=> .map j) (σ id)) (fun f _ ih=> .fn f ih) (fun t _ ih=> .iface t ih) .junk [] (fun _ _ ihd ihr=>ihd::ihr) d
def fQ (σ:Nat->Option Nat)(ds:List D):List D:=List.rec (motive:=fun _=>List D) [] (fun d _ ih=>gO σ d::ih) ds
mutual
def fW (σ:Nat->Option Nat):∀(d:D),gO σ d=mapD σ d
 | .p _=>rfl
 | .agg cs=>by show D.agg _=_;rw[rN σ cs];rfl
 | .tup cs=>by show D.tup _=_;rw[rN σ cs];rfl
 | .box id _=>by simp only[gO,mapD];cases σ id<;>rfl
 | .el id _ _=>by simp only[gO,mapD];cases σ id<;>rfl
 | .ip _ _=>rfl
 | .arr id _ _ _=>by simp only[gO,mapD];cases σ id<;>rfl
 | .sl _ _ _=>rfl
 | .map id=>by simp only[gO,mapD];cases σ id<;>rfl
 | .fn _ cs=>by show D.fn _ _=_;rw[rN σ cs];rfl
 | .iface _ d=>by
  show D.iface _ (gO σ d)=_;rw[fW σ d];rfl
 | .junk=>rfl
def rN (σ:Nat->Option Nat):∀(ds:List D),D.rec_1 (motive_1:=fun _=>D) (motive_2:=fun _=>List D)
  (fun x=> .p x) (fun _ ih=> .agg ih) (fun _ ih=> .tup ih) (fun id off=>Option.rec (motive:=fun _=>D) .junk (fun j=> .box j off) (σ id)) (fun id i off=>Option.rec (motive:=fun _=>D) .junk (fun j=> .el j i off) (σ id)) (fun x off=> .ip x off)
  (fun id lo len z=>Option.rec (motive:=fun _=>D) .junk (fun j=> .arr j lo len z) (σ id)) (fun g z es=> .sl g z es) (fun id=>Option.rec (motive:=fun _=>D) .junk (fun j=> .map j) (σ id)) (fun f _ ih=> .fn f ih) (fun t _ ih=> .iface t ih) .junk [] (fun _ _ ihd ihr=>ihd::ihr) ds=mapD.mapDL σ ds
 |[]=>rfl
 |d::r=>by
  show gO σ d::_=_;rw[rN σ r,fW σ d];rfl
end
def iy (σ:Nat->Option Nat):∀ds,fQ σ ds=mapD.mapDL σ ds
 |[]=>rfl
 |d::r=>by
  show gO σ d::fQ σ r=_;rw[fW,iy σ r];rfl
def nV (σ:Nat->Option Nat)(o:Ob):Ob:=Ob.rec (motive:=fun _=>Ob) (fun cs=> .box (fQ σ cs)) (fun es=> .arr es) (fun es=> .fz es) (fun ks vs=> .map ks vs) (fun ks vs=> .fzm ks vs) .dead .unborn (fun ks vs=> .mapd ks (fQ σ vs)) (fun es=> .byt es) (fun b es=> .may b es) o
def BN (σ:Nat->Option Nat)(o:Ob):nV σ o=cm σ o:=by
 cases o<;>try rfl
 ·simp only[nV,cm,iy]
 ·simp only[nV,cm,iy]
def mS (ids:LN)(hp:List Ob):List Ob:=List.rec (motive:=fun _=>List Ob) [] (fun i _ ih=>nV (ji ids) (H0 hp i)::ih) ids
def ka (ids:LN)(hp:List Ob):mS ids hp=cb ids hp:=by
 have go:∀l:LN,List.rec (motive:=fun _=>List Ob) [] (fun i _ ih=>nV (ji ids) (H0 hp i)::ih) l=l.map fun i=>cm (idx ids) (aS hp i):=by
  intro l;induction l with
  |nil=>rfl
  |cons x r ih=>
   show nV (ji ids) (H0 hp x)::_=_;rw[ih,BN,jz,lg];rfl
 exact go ids
def mZ (σ:Nat->Option Nat)(hp:List Ob):List Ob:=List.rec (motive:=fun _=>List Ob) [] (fun o _ ih=>nV σ o::ih) hp
def lD (σ:Nat->Option Nat):∀hp,mZ σ hp=hp.map (cm σ)
 |[]=>rfl
 |o::r=>by
  show nV σ o::mZ σ r=_;rw[BN,lD σ r];rfl
def iK (m:Nat)(hp:List Ob):LN:=List.rec (motive:=fun _=>Nat->LN) (fun _=>[]) (fun o _ ih m=>Nat.rec (motive:=fun _=>LN) [] (fun m _=>yJ o (ih m)) m) hp m
def iA:∀(hp:List Ob) (m:Nat),iK m hp=(hp.take m).flatMap hO
 |[],m=>by simp[iK]
 |o::r,0=>rfl
 |o::r,m+1=>by
  show yJ o (iK m r)=_;rw[BT,iA r m];simp
def Ez (hp:List Ob)(i:Nat)(o:Ob)(k:List Ob->R):R:=
 List.rec (motive:=fun _=>Nat->(List Ob->R)->R) (fun _ k=>k []) (fun x r ih i k=>Nat.rec (motive:=fun _=>R) (k (o::r)) (fun i _=>ih i fun r=>k (x::r)) i) hp i k
def sb (o:Ob):∀(hp:List Ob) (i:Nat) (k:List Ob->R),Ez hp i o k=k (jm hp i o)
 |[],i,k=>by rfl
 |x::r,0,k=>rfl
 |x::r,i+1,k=>by
  show Ez r i o (fun r=>k (x::r))=_;rw[sb o r i];rfl
def unb (o:Ob)(t:R):R:=Ob.rec (motive:=fun _=>R) (fun _=>none) (fun _=>none) (fun _=>none) (fun _ _=>none) (fun _ _=>none) none t (fun _ _=>none) (fun _=>none) (fun _ _=>none) o
def Mn (o:Ob)(t:R):unb o t=bif dw o then t else none:=by cases o<;>rfl
def On (l:LN)(n:Nat)(k:LN->R):R:=
 List.rec (motive:=fun _=>Nat->(LN->R)->R) (fun _ k=>k []) (fun x _ ih n k=>Nat.rec (motive:=fun _=>R) (k []) (fun n _=>ih n fun r=>k (x::r)) n) l n k
def Jd:∀(l:LN) (n:Nat) (k:LN->R),On l n k=k (l.take n)
 |[],n,k=>by simp[On]
 |x::r,0,k=>rfl
 |x::r,n+1,k=>by
  show On r n (fun r=>k (x::r))=_;rw[Jd r n];rfl
def tlN {α:Type}(l:List α)(n:Nat):List α:=Nat.rec (motive:=fun _=>List α) l (fun _ ih=>tl ih) n
def Mj {α:Type}(l:List α):∀n,tlN l n=l.drop n
 |0=>rfl
 |n+1=>by
  show tl (tlN l n)=_;rw[WP,Mj l n,mω]
def UO {α:Type}(l:List α)(n:Nat):List α:=tlN (Np l (Nat.div n 16)) (Nat.mod n 16)
variable {α:Type}
def UP (l:List α)(n:Nat):UO l n=l.drop n:=by
 unfold UO;rw[Mj,xW,mω];congr 1;exact Nat.div_add_mod n 16
def okF (d:D):Bool:=
 D.rec (motive_1:=fun _=>Bool) (motive_2:=fun _=>PUnit.{1})
  (fun _=>true) (fun _ _=>false) (fun _ _=>false) (fun _ _=>true) (fun _ _ _=>true) (fun _ _=>true) (fun _ _ _ _=>true) (fun _ _ _=>true) (fun _=>true) (fun _ _ _=>true) (fun _ _ _=>true) false ⟨⟩ (fun _ _ _ _=>⟨⟩) d
def Ϡ (d:D):okF d=dZ d:=by cases d<;>rfl
def Vp (xs:List D)(n:Nat):Bool:=
 List.rec (motive:=fun _=>Nat->Bool) (fun n=>Nat.rec (motive:=fun _=>Bool) true (fun _ _=>false) n) (fun d _ ih n=>Nat.rec (motive:=fun _=>Bool) false (fun m _=>Bool.rec (motive:=fun _=>Bool) false (ih m) (okF d)) n) xs n
def Dd:∀(xs:List D) (n:Nat),Vp xs n=(Nat.beq xs.length n&&xs.all dZ)
 |[],0=>rfl
 |[],n+1=>rfl
 |d::r,0=>rfl
 |d::r,n+1=>by
  show Bool.rec (motive:=fun _=>Bool) false (Vp r n) (okF d)=(Nat.beq r.length n&&(dZ d&&r.all dZ));rw[Dd r n,Ϡ];cases dZ d<;>simp
def Vz {α:Type}(xs:List α)(n:Nat):Bool:=
 List.rec (motive:=fun _=>Nat->Bool) (fun n=>Nat.rec (motive:=fun _=>Bool) true (fun _ _=>false) n) (fun _ _ ih n=>Nat.rec (motive:=fun _=>Bool) true (fun m _=>ih m) n) xs n
def wj {α:Type}:∀(xs:List α) (n:Nat),Vz xs n=Nat.ble n xs.length
 |[],0=>rfl
 |[],n+1=>rfl
 |d::r,0=>rfl
 |d::r,n+1=>wj r n
def N2 (xs:List D):List D->List D:=List.rec (motive:=fun _=>List D->List D) (fun cs=>cs) (fun x _ ih cs=>x::ih (tl cs)) xs
def Iv:∀(xs cs:List D),N2 xs cs=xs++cs.drop xs.length
 |[],cs=>rfl
 |x::r,cs=>by
  show x::N2 r (tl cs)=_;rw[Iv r,WP,mω];grind
def Q9 (cs:List D)(off:Nat)(xs:List D):List D:=
 List.rec (motive:=fun _=>Nat->List D) (fun _=>xs) (fun c r ih off=>Nat.rec (motive:=fun _=>List D) (N2 xs (c::r)) (fun o _=>c::ih o) off) cs off
def EE (xs:List D):∀(cs:List D) (off:Nat),Q9 cs off xs=splice cs off xs
 |[],off=>by simp[Q9,splice]
 |c::r,0=>by
  show N2 xs (c::r)=_;rw[Iv];simp[splice]
 |c::r,o+1=>by
  show c::Q9 r o xs=_;rw[EE xs r o];simp[splice,Nat.add_right_comm]
def V3 (cs:LD):List D:=List.rec (motive:=fun _=>List D) [] (fun x _ ih=> .p x::ih) cs
def wq:∀cs,V3 cs=cs.map .p
 |[]=>rfl
 |c::r=>by show D.p c::V3 r=_;rw[wq r];rfl
def q9 (d:D)(k:List D->R):R:=
 D.rec (motive_1:=fun _=>R) (motive_2:=fun _=>PUnit.{1})
  (fun x=>Da.rec (motive_1:=fun _=>R) (motive_2:=fun _=>PUnit.{1})
   (fun _=>k [d]) (fun _ _=>k [d]) (fun _=>k [d]) (fun cs _=>k (V3 cs)) (fun _ _ _=>k [d]) (k [d]) (fun _ _=>k [d]) (fun _ _ _ _=>k [d]) (k [d]) (fun _ _ _=>k [d]) (k [d]) (fun _ _ _=>k [d]) (k [d]) (fun _ _ _=>k [d]) (fun _ _=>k [d]) ⟨⟩ (fun _ _ _ _=>⟨⟩) x)
  (fun ds _=>k ds) (fun _ _=>k [d]) (fun _ _=>k [d]) (fun _ _ _=>k [d]) (fun _ _=>k [d]) (fun _ _ _ _=>k [d]) (fun _ _ _=>k [d]) (fun _=>k [d]) (fun _ _ _=>k [d]) (fun _ _ _=>k [d]) (k [d]) ⟨⟩ (fun _ _ _ _=>⟨⟩) d
def xU (d:D)(k:List D->R):q9 d k=k (bA d):=by
 cases d<;>try rfl
 rename_i x;cases x<;>try rfl
 simp only[q9,wq,bA]
def TW (ds:List D)(e:R)(k:LD->R):R:=
 List.rec (motive:=fun _=>(LD->R)->R) (fun k=>k [])
  (fun d _ ih k=>hE d e fun x=>ih fun xs=>k (x::xs)) ds k
def Gz (e:R):∀(ds:List D) (k:LD->R),TW ds e k=match iV ds with
  |some xs=>k xs
  |none=>e
 |[],k=>rfl
 |d::r,k=>by
  cases d<;>try rfl
  rename_i x;show TW r e (fun xs=>k (x::xs))=_;rw[Gz e r];simp only[iV];grind
def DK (ds:List D)(k:D->R):R:=TW ds (k (.agg ds)) fun xs=>k (.p (.agg xs))
def BQ (ds:List D)(k:D->R):DK ds k=k (yE ds):=by
 simp only[DK,Gz,yE];grind
def Vm (ps:List (Nat×Nat)):List D->List D->(List D->R)->R:=
 List.rec (motive:=fun _=>List D->List D->(List D->R)->R)
  (fun cs ds k=>List.rec (motive:=fun _=>R) (k cs) (fun _ _ _=>none) ds)
  (fun p _ ih cs ds k=>List.rec (motive:=fun _=>R) none (fun d ds _=>q9 d fun xs=>ql (Vp xs p.2) (ql (Vz cs (Nat.add p.1 p.2)) (ih (Q9 cs p.1 xs) ds k) none) none) ds) ps
def G6:∀(ps:List (Nat×Nat)) (cs ds:List D) (k:List D->R),Vm ps cs ds k=caseO (pk cs ps ds) none k
 |[],cs,[],k=>rfl
 |[],cs,d::ds,k=>rfl
 |p::ps,cs,[],k=>rfl
 |(off,n)::ps,cs,d::ds,k=>by
  show q9 d (fun xs=>ql (Vp xs n) (ql (Vz cs (Nat.add off n)) (Vm ps (Q9 cs off xs) ds k) none) none)=_
  simp only[xU,Dd,wj,EE,G6 ps,pk];have:Nat.add off n=off+n:=rfl;cases Nat.beq (bA d).length n<;>cases(bA d).all dZ<;>cases Nat.ble (off+n) cs.length<;>rfl
def CO (zs:List D)(ps:List (Nat×Nat))(vs:List D)(k:D->R):R:=Vm ps zs vs fun cs=>DK cs k
def WN {α:Type}(l:List α)(n:Nat)(k:List α->R):R:=
 List.rec (motive:=fun _=>Nat->(List α->R)->R) (fun n k=>Nat.rec (motive:=fun _=>R) (k []) (fun _ _=>none) n) (fun x _ ih n k=>Nat.rec (motive:=fun _=>R) (k []) (fun n _=>ih n fun r=>k (x::r)) n) l n k
def Je {α:Type}:∀(l:List α) (n:Nat) (k:List α->R),WN l n k=bif Nat.ble n l.length then k (l.take n)else none
 |[],0,k=>rfl
 |[],n+1,k=>rfl
 |x::r,0,k=>rfl
 |x::r,n+1,k=>by
  show WN r n (fun r=>k (x::r))=_;rw[Je r n];rfl
def Mi {α:Type}(l:List α)(off n:Nat)(k:List α->R):R:=ql (Vz l off) (WN (tlN l off) n k) none
def qx (agg:Bool)(ds:List D)(k:D->R):R:=Bool.rec (motive:=fun _=>R) (List.rec (motive:=fun _=>R) none (fun d r _=>List.rec (motive:=fun _=>R) (k d) (fun _ _ _=>none) r) ds) (DK ds k) agg
def lH (agg:Bool)(ds:List D)(k:D->R):qx agg ds k=caseO (eC agg ds) none k:=by
 cases agg with
 |true=>simp only[qx,BQ,eC,cond_true,caseO]
 |false=>
  match ds with
  |[]=>rfl
  |[d]=>rfl
  |_::_::_=>rfl
def NP (n:Nat)(agg:Bool)(d:D)(hp:List Ob)(e:R)(k:D->R):R:=
 D.rec (motive_1:=fun _=>R) (motive_2:=fun _=>PUnit.{1})
  (fun _=>e) (fun _ _=>none) (fun _ _=>none)
  (fun id off=>kL (H0 hp id) none fun cs=>Mi cs off n fun ds=>qx agg ds k)
  (fun _ _ _=>e)
  (fun x off=>Mi (cells x) off n fun xs=>qx agg (V3 xs) k)
  (fun _ _ _ _=>none) (fun _ _ _=>none) (fun _=>none) (fun _ _ _=>none) (fun _ _ _=>none) none ⟨⟩ (fun _ _ _ _=>⟨⟩) d
def Vq (off n:Nat)(agg:Bool)(d:D)(k:D->R):R:=
 D.rec (motive_1:=fun _=>R) (motive_2:=fun _=>PUnit.{1})
  (fun x=>Da.rec (motive_1:=fun _=>R) (motive_2:=fun _=>PUnit.{1})
   (fun _=>none) (fun _ _=>none) (fun _=>none) (fun cs _=>Mi cs off n fun xs=>qx agg (V3 xs) k) (fun _ _ _=>none) none (fun _ _=>none) (fun _ _ _ _=>none) none (fun _ _ _=>none) none (fun _ _ _=>none) none (fun _ _ _=>none) (fun _ _=>none) ⟨⟩ (fun _ _ _ _=>⟨⟩) x)
  (fun ds _=>Mi ds off n fun ds=>qx agg ds k) (fun _ _=>none) (fun _ _=>none) (fun _ _ _=>none) (fun _ _=>none) (fun _ _ _ _=>none) (fun _ _ _=>none) (fun _=>none) (fun _ _ _=>none) (fun _ _ _=>none) none ⟨⟩ (fun _ _ _ _=>⟨⟩) d
def CJ (base kk:Nat)(zs:List D)(hp:List Ob)(k:KV):R:=
 forceN (Nat.add base kk) fun id=>unb (H0 hp id) (Ez hp id (.box zs) fun hp=>k (.box id 0) hp)
def Ys (base:Nat)(n kk:Nat)(d:D)(hp:List Ob)(k:KV):R:=
 forceN (Nat.add base kk) fun id=>unb (H0 hp id) (forceDs (bA d) fun cs=>ql ((bif Nat.beq n 1000003 then Nat.beq cs.length 3 else Nat.beq cs.length n&&!b3 cs)&&cs.all dZ) (Ez hp id (.box cs) fun hp=>k (.box id 0) hp) none)
def Mf (n:Nat)(a d:D)(hp:List Ob)(e:R)(k:KV):R:=
 D.rec (motive_1:=fun _=>R) (motive_2:=fun _=>PUnit.{1})
  (fun _=>none) (fun _ _=>none) (fun _ _=>none)
  (fun id off=>kL (H0 hp id) none fun cs=>q9 d fun xs=>ql (Vp xs n) (ql (Vz cs (Nat.add off n)) (forceDs (Q9 cs off xs) fun cs1=>ql (b3 cs1&&!b3 cs) none (Ez hp id (.box cs1) fun hp=>k .junk hp)) none) none)
  (fun _ _ _=>e) (fun _ _=>none)
  (fun _ _ _ _=>none) (fun _ _ _=>none) (fun _=>none) (fun _ _ _=>none) (fun _ _ _=>none) none ⟨⟩ (fun _ _ _ _=>⟨⟩) a
section eqs
variable {call:aG} {base kk:Nat} {hp:List Ob} {k:KV}
def PK (zs:List D):dL call base (.alloc zs) kk [] hp k=CJ base kk zs hp k:=by
 simp only[CJ,jG,Mn,sb,lg];rfl
def Yt (n:Nat)(d:D):dL call base (.box n) kk [d] hp k=Ys base n kk d hp k:=by
 simp only[Ys,jG,Mn,sb,lg,f9,lb];show(bif dw (aS hp (base+kk))then match TO n base kk [d]with
  |none=>none
  |some (v,ups,new)=>k v (grow (aw hp ups) new)else none)=_
 simp only[TO];have:aS hp (base+kk)=hp.getD (Nat.add base kk) .dead:=rfl;rw[this];cases dw (hp.getD (Nat.add base kk) .dead)
 ·rfl
 ·cases((bif Nat.beq n 1000003 then Nat.beq (bA d).length 3 else Nat.beq (bA d).length n&&!b3 (bA d))&&(bA d).all dZ)<;>rfl
def Rg (n:Nat)(a d:D):dL call base (.store n) kk [a,d] hp k=Mf n a d hp (dL call base (.store n) kk [a,d] hp k) k:=by
 cases a<;>try rfl
 rename_i id off;simp only[Mf,sb,lg,f9,xU,Dd,wj,EE];have hn:bB (.store n) [.box id off,d] hp=id::(dids d++[]):=rfl;have hl:eS ((id::(dids d++[])).zip ((id::(dids d++[])).map (aS hp))) id=aS hp id:=by
  simp only[List.map_cons,List.zip_cons_cons,eS,show Nat.beq id id=true from Nat.beq_refl id,cond_true]
 simp only[dL,oX,mA,hn,hl];have:aS hp id=hp.getD id .dead:=rfl;rw[this];cases hp.getD id .dead<;>try rfl
 rename_i cs;have h2:Nat.add off n=off+n:=rfl;simp only[kL,h2];cases Nat.beq (bA d).length n<;>cases(bA d).all dZ<;>cases Nat.ble (off+n) cs.length<;>first|rfl|(cases(b3 (splice cs off (bA d))&&!b3 cs)<;>rfl)
def sd (l:List α)(off n:Nat)(f:List α->R):Mi l off n f=caseO (sub l off n) none f:=by
 unfold Mi sub;rw[lb,wj,Mj,Je,mχ];cases h:Nat.ble (off+n) l.length
 ·cases h1:Nat.ble off l.length
  ·rfl
  ·have:Nat.ble n (l.length - off)=false:=by
    rw[<-Bool.not_eq_true,Nat.ble_eq]at h ⊢
    simp_all;omega
   rw[this];rfl
 ·have:=Nat.le_of_ble_eq_true h;rw[Nat.ble_eq.mpr (by omega:off<=l.length),Nat.ble_eq.mpr (by omega:n<=l.length - off)];rfl
def V0 (n:Nat)(agg:Bool)(x:D):dL call base (.load n agg) kk [x] hp k=NP n agg x hp (jg (gn n agg [x] ((dids x).map (aS hp))) fun v=>k v hp) fun v=>k v hp:=by
 rw[cZ rfl];cases x<;>try rfl
 ·rename_i id off;show jg (gn n agg [.box id off] [aS hp id]) (fun v=>k v hp)=_;simp only[NP,gn,lg,sd,lH];have:aS hp id=hp.getD id .dead:=rfl;rw[this];cases hp.getD id .dead<;>try rfl
  rename_i cs;simp only[kL];cases sub cs off n with
  |none=>rfl
  |some ds=>
   simp only[caseO];cases eC agg ds<;>rfl
 ·rename_i x off;show jg (gn n agg [.ip x off] []) (fun v=>k v hp)=_;simp only[NP,gn,sd,lH,wq];cases sub (cells x) off n with
  |none=>rfl
  |some ds=>
   simp only[caseO];cases eC agg (ds.map .p)<;>rfl
def ß {β:Type}(f:α->β)(l:List α)(off n:Nat):sub (l.map f) off n=(sub l off n).map (List.map f):=by
 unfold sub;rw[lα];cases Nat.ble (off+n) l.length;all_goals simp_all
def Zt (off n:Nat)(agg:Bool)(x:D):dL call base (.fld off n agg) kk [x] hp k=Vq off n agg x fun v=>k v hp:=by
 rw[cZ rfl];show jg (Gq off n agg [x]) (fun v=>k v hp)=_;cases x<;>try rfl
 ·rename_i x;cases x<;>try rfl
  rename_i cs;simp only[Gq,Vq,sd,lH,wq,ß];cases sub cs off n with
  |none=>rfl
  |some ds=>
   simp only[Option.map_some,caseO];cases eC agg (ds.map .p)<;>rfl
 ·rename_i cs;simp only[Gq,Vq,sd,lH];cases sub cs off n with
  |none=>rfl
  |some ds=>
   simp only[caseO];cases eC agg ds<;>rfl
def PQ (zs:List D)(ps:List (Nat×Nat))(vs:List D):dL call base (.build zs ps) kk vs hp k=CO zs ps vs fun v=>k v hp:=by
 rw[cZ rfl];show jg (pX zs ps vs) (fun v=>k v hp)=_;simp only[pX,CO,G6,BQ];cases pk zs ps vs<;>rfl
end eqs
def ė (n:Nat)(agg:Bool)(x:D)(hp:List Ob)(k:D->R):R:=NP n agg x hp (jg (gn n agg [x] ((dids x).map (aS hp))) k) k
def EF (call:aG)(base n kk:Nat)(a d:D)(hp:List Ob)(k:KV):R:=
 Mf n a d hp (dL call base (.store n) kk [a,d] hp fun v hp=>oL hp fun hp=>k v hp) k
def Vu (call:aG)(base:Nat)(o:O)(kk:Nat)(vs:List D)(hp:List Ob)(k:KV):R:=
 dL call base o kk vs hp fun v hp=>f7 v fun v=>oL hp fun hp=>k v hp
def Dj (call:aG)(base:Nat)(o:O)(kk:Nat)(vs:List D)(hp:List Ob)(k:KV):Vu call base o kk vs hp k=dL call base o kk vs hp k:=by
 simp only[Vu,lB,j2]
def Rc (call:aG)(base n kk:Nat)(a d:D)(hp:List Ob)(k:KV):EF call base n kk a d hp k=dL call base (.store n) kk [a,d] hp k:=by
 simp only[EF,j2];exact(Rg n a d).symm
def EC (lo hi:Bool)(x:D)(xs:List D)(k:D->R):R:=
 hE x none fun x=>oG x none fun s=>caseO (cz lo hi false (HK s) xs) none fun b=>On (UO s b.1) (Nat.sub b.2.1 b.1) fun r=>k (.p (.str r))
variable {kk:Nat} {k:KV}
def Q8 {call:aG}{base:Nat}{hp:List Ob}(lo hi:Bool)(x:D)(xs:List D):dL call base (.slStr lo hi) kk (x::xs) hp k=EC lo hi x xs fun v=>k v hp:=by
 rw[cZ rfl];show jg (mz lo hi (x::xs)) (fun v=>k v hp)=_;cases x<;>try rfl
 rename_i x;cases x<;>try rfl
 rename_i s;simp only[mz,EC,hE,oG,Jd,UP,kT];cases cz lo hi false s.length xs with
 |none=>rfl
 |some b=>rfl
def vR (es:LD)(n:Nat)(ys:LD)(e:R)(k:LD->R):R:=
 List.rec (motive:=fun _=>Nat->(LD->R)->R) (fun n k=>Nat.rec (motive:=fun _=>R) (k ys) (fun _ _=>e) n) (fun x _ ih n k=>Nat.rec (motive:=fun _=>R) (k ys) (fun m _=>ih m fun r=>k (x::r)) n) es n k
def xG (ys:LD)(e:R):∀(es:LD) (n:Nat) (k:LD->R),vR es n ys e k=bif Nat.ble n es.length then k (es.take n++ys)else e
 |[],0,k=>rfl
 |[],n+1,k=>rfl
 |x::r,0,k=>rfl
 |x::r,n+1,k=>by
  show vR r n ys e (fun r=>k (x::r))=_;rw[xG ys e r];rfl
def Nd (o:Ob)(e:R)(k:LD->R):R:=
 Ob.rec (motive:=fun _=>R) (fun _=>e) (fun es=>k es) (fun _=>e) (fun _ _=>e) (fun _ _=>e) e e (fun _ _=>e) (fun _=>e) (fun _ _=>e) o
def yK (esz:Nat)(b:D)(e:R)(k:LD->R):R:=
 D.rec (motive_1:=fun _=>R) (motive_2:=fun _=>PUnit.{1})
  (fun x=>io x e fun z es=>ql (Nat.beq z esz) (k es) e) (fun _ _=>e) (fun _ _=>e) (fun _ _=>e) (fun _ _ _=>e) (fun _ _=>e) (fun _ _ _ _=>e) (fun _ z es=>ql (Nat.beq z esz) (k es) e) (fun _=>e) (fun _ _ _=>e) (fun _ _ _=>e) e ⟨⟩ (fun _ _ _ _=>⟨⟩) b
def aaS (esz:Nat)(b:D)(os:List (Nat×Ob))(e:R)(k:LD->R):yK esz b e k=e\/∃ys,elems esz os b=some ys/\yK esz b e k=k ys:=by
 cases b<;>try exact .inl rfl
 ·rename_i x;cases x<;>try exact .inl rfl
  all_goals
   simp only[yK,io,lb,elems,mV,wF];grind
 ·simp only[yK,lb,elems,mV,wF];grind
def ņ (esz bytes base kk:Nat)(a b:D)(hp:List Ob)(e:R)(k:KV):R:=
 D.rec (motive_1:=fun _=>R) (motive_2:=fun _=>PUnit.{1})
  (fun _=>e) (fun _ _=>e) (fun _ _=>e) (fun _ _=>e) (fun _ _ _=>e) (fun _ _=>e)
  (fun id lo len z=>Nat.rec (motive:=fun _=>R) (ql (Nat.beq z esz) (Nd (H0 hp id) e fun es=>yK esz b e fun ys=>vR es len ys e fun zs=>
   forceN (Nat.add len (HK ys)) fun l=>ql (Nat.ble (Nat.mul (Nat.add (Nat.mul 2 l) 192) bytes) 281474976710656) (ql (Nat.ble (Nat.add (Nat.mul 2 l) 192) 9223372036854775807)
    (forceN (Nat.add base kk) fun i=>unb (H0 hp i) (Ez hp id .dead fun hp=>Ez hp i (.arr zs) fun hp=>k (.arr i 0 l esz) hp)) none) none) e) (fun _ _=>e) lo)
  (fun _ _ _=>e) (fun _=>e) (fun _ _ _=>e) (fun _ _ _=>e) e ⟨⟩ (fun _ _ _ _=>⟨⟩) a
def Yh {call:aG}{base:Nat}{hp:List Ob}(esz bytes:Nat)(a b:D):dL call base (.app esz bytes) kk [a,b] hp k=ņ esz bytes base kk a b hp (dL call base (.app esz bytes) kk [a,b] hp k) k:=by
 cases a<;>try rfl
 rename_i id lo len z;cases lo with
 |succ lo=>rfl
 |zero=>
  simp only[ņ,lb];cases hz:Nat.beq z esz
  ·rfl
  ·have ho:aS hp id=H0 hp id:=(lg hp id).symm;cases hob:H0 hp id<;>try rfl
   rename_i es;simp only[Nd];have hn:bB (.app esz bytes) [.arr id 0 len z,b] hp=id::(dids b++[]):=rfl;have hl:eS ((id::(dids b++[])).zip ((id::(dids b++[])).map (aS hp))) id= .arr es:=by
    simp only[List.map_cons,List.zip_cons_cons,eS,show Nat.beq id id=true from Nat.beq_refl id,cond_true,ho,hob]
   rcases aaS esz b ((id::(dids b++[])).zip ((id::(dids b++[])).map (aS hp))) (dL call base (.app esz bytes) kk [.arr id 0 len z,b] hp k) (fun ys=>vR es len ys (dL call base (.app esz bytes) kk [.arr id 0 len z,b] hp k) fun zs=>
   forceN (Nat.add len (HK ys)) fun l=>bif Nat.ble (Nat.mul (Nat.add (Nat.mul 2 l) 192) bytes) 281474976710656 then bif Nat.ble (Nat.add (Nat.mul 2 l) 192) 9223372036854775807 then
    (forceN (Nat.add base kk) fun i=>unb (H0 hp i) (Ez hp id .dead fun hp=>Ez hp i (.arr zs) fun hp=>k (.arr i 0 l esz) hp))else none else none)with hy|⟨ys,hy1,hy2⟩
   ·exact hy.symm
   ·rw[hy2,xG];cases hle:Nat.ble len es.length
    ·rfl
    ·have hle':=Nat.le_of_ble_eq_true hle;have hlen:(es.take len).length=len:=by grind
     simp only[jG,sb,Mn,lg,kT];simp only[dL,oX,m4,hn,kK,hl,hz,cond_true,List.drop_zero,hy1,hlen,cond_false];have e1:aS hp (base+kk)=hp.getD (Nat.add base kk) .dead:=rfl;rw[e1];have e2:(2*(len+ys.length)+192)*bytes=Nat.mul (Nat.add (Nat.mul 2 (Nat.add len ys.length)) 192) bytes:=rfl;have e3:2*(len+ys.length)+192=Nat.add (Nat.mul 2 (Nat.add len ys.length)) 192:=rfl;cases dw (hp.getD (Nat.add base kk) .dead)<;>cases Nat.ble (Nat.mul (Nat.add (Nat.mul 2 (Nat.add len ys.length)) 192) bytes) 281474976710656<;>cases Nat.ble (Nat.add (Nat.mul 2 (Nat.add len ys.length)) 192) 9223372036854775807<;>rfl
def Yd (call:aG)(base esz bytes kk:Nat)(a b:D)(hp:List Ob)(k:KV):R:=
 ņ esz bytes base kk a b hp (Vu call base (.app esz bytes) kk [a,b] hp k) k
def Ye (call:aG)(base esz bytes kk:Nat)(a b:D)(hp:List Ob)(k:KV):Yd call base esz bytes kk a b hp k=dL call base (.app esz bytes) kk [a,b] hp k:=by
 unfold Yd;rw[Dj];exact(Yh esz bytes a b).symm
def Ug (esz:Nat)(d:D)(e:R)(k:D->R):R:=hE d e fun x=>ql (Nat.beq (HK (cells x)) esz) (k (.sl .exact esz [x])) none
def Uh {call:aG}{base:Nat}{hp:List Ob}(esz:Nat)(z:Da)(d:D):dL call base (.bsl esz z 1 [0]) kk [d] hp k=Ug esz d (dL call base (.bsl esz z 1 [0]) kk [d] hp k) fun v=>k v hp:=by
 cases d<;>try rfl
 rename_i x;simp only[Ug,hE,kT];have:dL call base (.bsl esz z 1 [0]) kk [.p x] hp k=match PG esz z 1 [0] [.p x] [] []with
  |none=>none
  |some (v,ups,new)=>k v (grow (aw hp ups) new):=rfl
 rw[this];simp only[PG,pur.purL,pur,List.all_cons,Bool.and_true];cases Nat.beq (cells x).length esz
 ·rfl
 ·rfl
def Ue (call:aG)(base esz:Nat)(z:Da)(kk:Nat)(d:D)(hp:List Ob)(k:KV):R:=Ug esz d (Vu call base (.bsl esz z 1 [0]) kk [d] hp k) fun v=>k v hp
def Uf (call:aG)(base esz:Nat)(z:Da)(kk:Nat)(d:D)(hp:List Ob)(k:KV):Ue call base esz z kk d hp k=dL call base (.bsl esz z 1 [0]) kk [d] hp k:=by
 unfold Ue;rw[Dj];exact(Uh esz z d).symm
def nN (d:D)(k:D->R):R:=
 D.rec (motive_1:=fun _=>R) (motive_2:=fun _=>PUnit.{1})
  (fun x=>Da.rec (motive_1:=fun _=>R) (motive_2:=fun _=>PUnit.{1})
   (fun b=>Bool.rec (motive:=fun _=>R) (k (.p (.bool false))) (k (.p (.bool true))) b) (fun i n=>De n fun n=>k (.p (.int i n))) (fun s=>forceNs s fun s=>k (.p (.str s))) (fun cs _=>rq cs fun cs=>k (.p (.agg cs))) (fun z es _=>rq es fun es=>k (.p (.slice z es))) (k d) (fun _ _=>k d) (fun _ _ _ _=>k d) (k d) (fun _ _ _=>k d) (k d) (fun _ _ _=>k d) (k d) (fun _ _ _=>k d) (fun _ _=>k d) ⟨⟩ (fun _ _ _ _=>⟨⟩) x)
  (fun cs _=>k (.agg cs)) (fun ds _=>forceDs ds fun ds=>k (.tup ds)) (fun _ _=>f7 d k) (fun _ _ _=>f7 d k) (fun _ _=>k d)
  (fun _ _ _ _=>f7 d k) (fun _ _ _=>k d) (fun _=>f7 d k) (fun _ _ _=>k d) (fun _ _ _=>k d) (k d) ⟨⟩ (fun _ _ _ _=>⟨⟩) d
def Qn (d:D)(k:D->R):nN d k=k d:=by
 cases d<;>(try rfl)<;>(try (simp only[nN,lB];done))
 ·rename_i x;cases x<;>try rfl
  ·rename_i b;cases b<;>rfl
  ·simp only[nN,Bw]
  ·simp only[nN,j3]
  ·simp only[nN,mD]
  ·simp only[nN,mD]
 ·simp only[nN,f9]
end
section
def n8 (vs:List D)(e:R)(k:List D->R):R:=
 List.rec (motive:=fun _=>(List D->R)->R) (fun k=>k [])
  (fun d _ ih k=>D.rec (motive_1:=fun _=>R) (motive_2:=fun _=>PUnit.{1})
   (fun x=>ih fun xs=>k (.p x::xs)) (fun _ _=>e) (fun _ _=>e) (fun _ _=>e) (fun _ _ _=>e) (fun _ _=>e) (fun _ _ _ _=>e) (fun _ _ _=>e) (fun _=>e) (fun _ _ _=>e) (fun _ _ _=>e) e ⟨⟩ (fun _ _ _ _=>⟨⟩) d) vs k
def N8 (r:D)(e:R)(k:D->R):R:=
 D.rec (motive_1:=fun _=>R) (motive_2:=fun _=>PUnit.{1})
  (fun x=>k (.p x)) (fun _ _=>e) (fun ds _=>n8 ds e fun ds=>k (.tup ds)) (fun _ _=>e) (fun _ _ _=>e) (fun _ _=>e) (fun _ _ _ _=>e) (fun _ _ _=>e) (fun _=>e) (fun _ _ _=>e) (fun _ _ _=>e) e ⟨⟩ (fun _ _ _ _=>⟨⟩) r
def Jm:D->Bool
 | .p _=>true
 |_=>false
def jc (e:R):∀(vs:List D) (k:List D->R),n8 vs e k=bif vs.all Jm then k vs else e
 |[],k=>rfl
 |d::r,k=>by
  cases d<;>try rfl
  rename_i x;show n8 r e (fun xs=>k (.p x::xs))=_;rw[jc e r];rfl
def yS:D->Bool
 | .p _=>true
 | .tup ds=>ds.all Jm
 |_=>false
def yT (r:D)(e:R)(k:D->R):N8 r e k=bif yS r then k r else e:=by
 cases r<;>try rfl
 exact jc _ _ _
def oH:∀{vs:List D},vs.all Jm=true->dids.didsL vs=[]
 |[],_=>rfl
 |d::r,h=>by
  simp only[List.all_cons,lγ]at h;cases d<;>simp only[Jm,Bool.false_eq_true,false_and]at h;simp only[dids.didsL,dids,oH h.2,mη]
def tW (σ:Nat->Option Nat):∀{vs:List D},vs.all Jm=true->mapD.mapDL σ vs=vs
 |[],_=>rfl
 |d::r,h=>by
  simp only[List.all_cons,lγ]at h;cases d<;>simp only[Jm,Bool.false_eq_true,false_and]at h;simp only[mapD.mapDL,mapD,tW σ h.2]
def tX (σ:Nat->Option Nat){d:D}(h:yS d=true):mapD σ d=d:=by
 cases d<;>simp only[yS,Bool.false_eq_true]at h
 ·rfl
 ·simp only[mapD,tW σ h]
def tZ:∀{vs:List D},vs.all Jm=true->vs.map norm=vs
 |[],_=>rfl
 |d::r,h=>by
  simp only[List.all_cons,lγ]at h;cases d<;>simp only[Jm,Bool.false_eq_true,false_and]at h;simp only[List.map_cons,norm,tZ h.2]
def Ux (call:aG)(f:Nat)(args:List D)(e:R)(k:D->R):R:=
 caseO (call f args []) none fun ro=>Prod.rec (motive:=fun _=>R) (fun r out=>List.rec (motive:=fun _=>R) (N8 r e k) (fun _ _ _=>e) out) ro
def Bi (call:aG)(f:Nat)(raw:Bool)(vs:List D)(hp:List Ob)(e:R)(k:D->R):R:=
 n8 vs e fun vs=>Ux call f vs e k
def uz {call:aG}{f:Nat}{vs:List D}{len:Nat}(h:vs.all Jm=true):fO call f vs [] [] len=match call f vs []with
  |none=>none
  |some (r,out)=>some (mapD (back 0 len [] out.length) r,[],out.map (cm (back 0 len [] out.length))):=by
 unfold fO;rw[tW _ h];rfl
abbrev KF:=D->List Ob->eE->R
section eqs
variable {call:aG} {base kk:Nat} {hp:List Ob} {k:KV}
def Bk (hp:List Ob)(n:Nat)(acc:LN):cF hp n [] acc=acc:=by cases n<;>rfl
def PY {f:Nat}{raw:Bool}{vs:List D}(h:vs.all Jm=true):dL call base (.call f raw) kk vs hp k=match call f vs []with
  |none=>none
  |some (r,out)=>k (mapD (back 0 hp.length [] out.length) r) (grow hp (out.map (cm (back 0 hp.length [] out.length)))):=by
 have hn:bB (.call f raw) vs hp=[]:=by simp only[bB,oH h,Bk]
 have ha:(bif raw then vs else vs.map norm)=vs:=by cases raw<;>simp[tZ h]
 simp only[dL,hn,List.map_nil,oX,ha,uz h];cases call f vs []<;>rfl
def Uy (f:Nat)(raw:Bool)(vs:List D):dL call base (.call f raw) kk vs hp k=Bi call f raw vs hp (dL call base (.call f raw) kk vs hp k) fun v=>k v hp:=by
 unfold Bi;rw[jc];cases h:vs.all Jm
 ·rfl
 ·rw[cond_true,PY h];unfold Ux;cases hc:call f vs []with
  |none=>rfl
  |some p=>
   obtain⟨r,out⟩:=p;cases out with
   |cons o out=>rfl
   |nil=>
    simp only[caseO,yT];cases hr:yS r
    ·rfl
    ·rw[tX _ hr];rfl
end eqs
def Bj (call:aG)(f:Nat)(raw:Bool)(vs:List D)(hp:List Ob)(k:KF):R:=
 forceNs (eQ hp bf (dX vs []) []) fun ids=>
  forceDs (fQ (ji ids) (Bool.rec (motive:=fun _=>List D) (vs.map norm) vs raw)) fun args=>forceHb (mS ids hp) fun hp'=>
   caseO (call f args hp') none fun ro=>Prod.rec (motive:=fun _=>R) (fun r out=>ql (Nat.ble ids.length out.length)
    (f7 (gO (back ids.length hp.length ids out.length) r) fun v=>forceHb (mZ (back ids.length hp.length ids out.length) out) fun out'=>
     forceHb (grow (aw hp (ids.zip out')) (out'.drop ids.length)) fun hp2=>k v hp2 ⟨ids,gW ids hp (ids.zip out'),!(out'.drop ids.length).isEmpty,hp.length⟩) none) ro
variable {kk:Nat}
def GL {call:aG}{base:Nat}{hp:List Ob}{k:KF}(f:Nat)(raw:Bool)(vs:List D):Bj call f raw vs hp k=bif !(ep (.call f raw))||dw (aS hp (base+kk))then
  match oX call base (.call f raw) kk vs (bB (.call f raw) vs hp) ((bB (.call f raw) vs hp).map (aS hp)) hp.length with
  |none=>none
  |some (v,ups,new)=>k v (grow (aw hp ups) new) ⟨bif ep (.call f raw)then(base+kk)::bB (.call f raw) vs hp else bB (.call f raw) vs hp,gW (bB (.call f raw) vs hp) hp ups,!new.isEmpty,hp.length⟩
 else none:=by
 have hn:bB (.call f raw) vs hp=cF hp bf (dids.didsL vs) []:=rfl;simp only[Bj,j3,f9,j1,lB,dF,ed,mη,iy,jz,ka,fW,lD,lb,ep,oX,fO,hn];have e:(List.map (cm (idx (cF hp bf (dids.didsL vs) []))) (List.map (aS hp) (cF hp bf (dids.didsL vs) [])))=cb (cF hp bf (dids.didsL vs) []) hp:=by
  simp;rfl
 have e2:(bif raw then vs else List.map norm vs)=Bool.rec (motive:=fun _=>List D) (vs.map norm) vs raw:=by cases raw<;>rfl
 rw[e,e2];cases call f (mapD.mapDL (idx (cF hp bf (dids.didsL vs) [])) (Bool.rec (motive:=fun _=>List D) (vs.map norm) vs raw)) (cb (cF hp bf (dids.didsL vs) []) hp)with
 |none=>rfl
 |some p=>
  simp only[caseO];grind
def Nc (call:aG)(f:Nat)(raw:Bool)(vs:List D)(hp:List Ob)(k:KV):R:=
 Bi call f raw vs hp (Bj call f raw vs hp fun v hp _=>k v hp) fun v=>k v hp
def Uu {call:aG}{base:Nat}{hp:List Ob}{k:KV}(f:Nat)(raw:Bool)(vs:List D):dL call base (.call f raw) kk vs hp k=Nc call f raw vs hp k:=by
 rw[Uy];unfold Nc;rw[GL (base:=base) (kk:=kk)];rfl
def iaG (esz:Nat)(x i:D)(k:D->R):R:=iaK esz x i (jg (MX esz [x,i]) k) k
def faG (off:Nat)(x:D)(k:D->R):R:=faK off x (jg (Ŀ off [x]) k) k
def Wf (x:D)(k:D->R):R:=Wg x (jg (pY [x]) k) k
def aap (kd:Nat)(x:D)(hp:List Ob)(k:D->R):R:=ϓ kd x (jg (PI kd [x] (bB (.len kd) [x] hp) ((bB (.len kd) [x] hp).map (aS hp))) k) k
def VX (x:D)(hp:List Ob)(k:D->R):R:=DF x hp (jg (gn 1 false [x] ((dids x).map (aS hp))) k) k
def đ (o:O)(vs:List D)(hp:List Ob):eE:=⟨bB o vs hp,[],false,hp.length⟩
def aae (hp:List Ob):eE:=⟨[],[],false,hp.length⟩
def Qt (call:aG)(base:Nat)(o:O)(kk:Nat)(vs:List D)(hp:List Ob)(k:KV):R:=
 match o,vs with
 | .mv,[a]=>k a hp
 | .pick,[c,a,b]=>Wj c a b fun v=>k v hp
 | .bin op,[x,y]=>Yl op x y fun v=>k v hp
 | .un .not,[x]=>Ϟ x fun v=>k v hp
 | .ia esz,[x,i]=>iaG esz x i fun v=>k v hp
 | .ix,[x,i]=>ixK x i fun v=>k v hp
 | .fa off,[x]=>faG off x fun v=>k v hp
 | .nilck,[x]=>Wf x fun v=>k v hp
 | .ext i,[x]=>Zq i x fun v=>k v hp
 | .len kd,[x]=>aap kd x hp fun v=>k v hp
 | .load 1 false,[x]=>VX x hp fun v=>k v hp
 | .call f raw,vs=>Nc call f raw vs hp k
 | .alloc zs,[]=>CJ base kk zs hp k
 | .box n,[d]=>Ys base n kk d hp k
 | .store n,[a,d]=>EF call base n kk a d hp k
 | .slStr lo hi,x::xs=>EC lo hi x xs fun v=>k v hp
 | .load n agg,[x]=>ė n agg x hp fun v=>k v hp
 | .fld off n agg,[x]=>Vq off n agg x fun v=>k v hp
 | .build zs ps,vs=>CO zs ps vs fun v=>k v hp
 | .app esz bytes,[a,b]=>Yd call base esz bytes kk a b hp k
 | .bsl esz z 1 [0],[d]=>Ue call base esz z kk d hp k
 |o,vs=>match lL o with
  |true=>dL call base o kk vs hp k
  |false=>Vu call base o kk vs hp k
def VN (call:aG)(base:Nat)(o:O)(kk:Nat)(vs:List D)(hp:List Ob)(k:KV):Qt call base o kk vs hp k=dL call base o kk vs hp k:=by
 unfold Qt;split
 ·rfl
 ·exact(Wn _ _ _).symm
 ·exact(Yp _ _ _).symm
 ·exact(Ë _).symm
 ·exact(Φ _ _ _).symm
 ·exact(Ϗ _ _).symm
 ·exact(Δ _ _).symm
 ·exact(QI _).symm
 ·exact(Zr _ _).symm
 ·exact(Á _ _).symm
 ·exact(QF _).symm
 ·exact(Uu _ _ _).symm
 ·exact(PK _).symm
 ·exact(Yt _ _).symm
 ·exact Rc _ _ _ _ _ _ _ _
 ·exact(Q8 _ _ _ _).symm
 ·exact(V0 _ _ _).symm
 ·exact(Zt _ _ _ _).symm
 ·exact(PQ _ _ _).symm
 ·exact Ye _ _ _ _ _ _ _ _ _
 ·exact Uf _ _ _ _ _ _ _ _
 ·split
  ·rfl
  ·exact Dj _ _ _ _ _ _ _
def Di (call:aG)(base:Nat)(o:O)(kk:Nat)(vs:List D)(hp:List Ob)(k:KF):R:=
 bif !(ep o)||dw (aS hp (base+kk))then
  match oX call base o kk vs (bB o vs hp) ((bB o vs hp).map (aS hp)) hp.length with
  |none=>none
  |some (v,ups,new)=>k v (grow (aw hp ups) new) ⟨bif ep o then(base+kk)::bB o vs hp else bB o vs hp,gW (bB o vs hp) hp ups,!new.isEmpty,hp.length⟩
 else none
def GK (call:aG)(f:Nat)(raw:Bool)(vs:List D)(hp:List Ob)(k:KF):R:=
 Bi call f raw vs hp (Bj call f raw vs hp k) fun v=>k v hp (aae hp)
def Ut {call:aG}{base:Nat}{hp:List Ob}{k:KF}(f:Nat)(raw:Bool)(vs:List D):Di call base (.call f raw) kk vs hp k=GK call f raw vs hp k:=by
 unfold GK Bi;rw[jc,GL (base:=base) (kk:=kk)];cases h:vs.all Jm
 ·rfl
 ·have hn:bB (.call f raw) vs hp=[]:=by simp only[bB,oH h,Bk]
  have ha:(bif raw then vs else vs.map norm)=vs:=by cases raw<;>simp[tZ h]
  simp only[Di,hn,List.map_nil,oX,ha,uz h];unfold Ux;cases hc:call f vs []with
  |none=>rfl
  |some p=>
   obtain⟨r,out⟩:=p;cases out with
   |cons o out=>rfl
   |nil=>
    simp only[caseO,yT];cases hr:yS r
    ·rfl
    ·rw[tX _ hr];rfl
def yo (call:aG)(base:Nat)(o:O)(kk:Nat)(vs:List D)(hp:List Ob)(k:KF):R:=
 match o with
 | .call f raw=>GK call f raw vs hp k
 |o=>match lL o with
  |true=>Qt call base o kk vs hp fun v hp'=>k v hp' (đ o vs hp)
  |false=>Di call base o kk vs hp k
def Z6 (call:aG)(base:Nat)(o:O)(kk:Nat)(vs:List D)(hp:List Ob)(k:KF):yo call base o kk vs hp k=Di call base o kk vs hp k:=by
 unfold yo;split
 ·exact(Ut _ _ _).symm
 ·split
  ·rename_i hs;rw[VN,cZ hs];have hq:=uN (call:=call) (base:=base) (kk:=kk) (vs:=vs) (ids:=bB o vs hp) (obs:=(bB o vs hp).map (aS hp)) (len:=hp.length) hs;simp only[Di,uM hs,cond_false];cases ha:oX call base o kk vs (bB o vs hp) ((bB o vs hp).map (aS hp)) hp.length with
   |none=>rfl
   |some e=>
    obtain⟨v,ups,new⟩:=e;have:=hq _ ha;obtain⟨rfl,rfl⟩:=this;rfl
  ·rfl
def Dl (d:D)(want:Bool)(t e:R):R:=
 D.rec (motive_1:=fun _=>R) (motive_2:=fun _=>PUnit.{1})
  (fun x=>q6 x none (Bool.rec (motive:=fun _=>R) e t want) (Bool.rec (motive:=fun _=>R) t e want))
  (fun _ _=>none) (fun ds _=>List.rec (motive:=fun _=>R) e (fun _ _ _=>none) ds) (fun _ _=>none) (fun _ _ _=>none) (fun _ _=>none) (fun _ _ _ _=>none) (fun _ _ _=>none) (fun _=>none) (fun _ _ _=>none) (fun _ _ _=>none) none ⟨⟩ (fun _ _ _ _=>⟨⟩) d
def Vx (d:D)(want:Bool):Option Bool:=
 match d with
 | .p (.bool b)=>some (b==want)
 | .tup []=>some false
 |_=>none
def BC (d:D)(want:Bool)(t e:R):Dl d want t e=match Vx d want with
  |none=>none
  |some true=>t
  |some false=>e:=by
 cases d<;>try rfl
 ·rename_i x;cases x<;>try rfl
  rename_i b;cases b<;>cases want<;>rfl
 ·rename_i ds;cases ds<;>rfl
def rA {x:eT}(tm:Tm)(h:x.gd=none):dN x tm=some true:=by simp[dN,h]
def rC {x:eT}(tm:Tm){g:Nat}{w:Bool}(h:x.gd=some (g,w)):dN x tm=Vx (get tm g) w:=by
 unfold dN;rw[h];rfl
def gG (d:D)(want:Bool)(run:KV->R)(hp:List Ob)(k:KV):R:=Dl d want (run k) (k (.tup []) hp)
def gF (d:D)(want:Bool)(run:KF->R)(hp:List Ob)(k:KF):R:=Dl d want (run k) (k (.tup []) hp ⟨[],[],false,0⟩)
def i_ (gd:Option (Nat×Bool))(tm:Tm)(run:KV->R)(hp:List Ob)(k:KV):R:=
 match gd with
 |none=>run k
 |some (g,w)=>gG (nP tm g) w run hp k
def h_ (gd:Option (Nat×Bool))(tm:Tm)(run:KF->R)(hp:List Ob)(k:KF):R:=
 match gd with
 |none=>run k
 |some (g,w)=>gF (nP tm g) w run hp k
def rM (tm:Tm)(as:List A):List D:=List.rec (motive:=fun _=>List D) [] (fun a _ ih=>Zo tm a::ih) as
def DI (tm:Tm):∀as,rM tm as=as.map (ev tm)
 |[]=>rfl
 |a::r=>by
  show Zo tm a::rM tm r=_;rw[Vh,DI tm r];rfl
def Dn (call:aG)(base:Nat)(ops:List eT):Tm->List Ob->K->R:=
 List.rec (motive:=fun _=>Tm->List Ob->K->R) (fun tm hp k=>k tm hp)
  (fun x _ ih tm hp k=>i_ x.gd tm (fun k=>Qt call base x.op x.k (rM tm x.as) hp k) hp fun v hp=>ih (put x.dst v tm) hp k) ops
def NI (call:aG)(base:Nat):∀(ops:List eT) (tm:Tm) (hp:List Ob) (k:K),Dn call base ops tm hp k=match kO call base ops ⟨tm,hp⟩with
  |none=>none
  |some st=>k st.tm st.hp
 |[],tm,hp,k=>rfl
 |x::r,tm,hp,k=>by
  have step:∀v hp',Dn call base r (put x.dst v tm) hp' k=match kO call base r ⟨put x.dst v tm,hp'⟩with
   |none=>none
   |some st=>k st.tm st.hp:=fun v hp'=>NI call base r _ _ _
  have run:(Qt call base x.op x.k (rM tm x.as) hp fun v hp=>Dn call base r (put x.dst v tm) hp k)=match (match oZ call base x ⟨tm,hp⟩with
    |none=>none
    |some (st',_)=>kO call base r st')with
   |none=>none
   |some st=>k st.tm st.hp:=by
   rw[VN,DI];simp only[dL,oZ,õ,We];grind
  show i_ x.gd tm (fun k=>Qt call base x.op x.k (rM tm x.as) hp k) hp (fun v hp=>Dn call base r (put x.dst v tm) hp k)=_;simp only[kO,i_];cases hg:x.gd with
  |none=>rw[rA tm hg];exact run
  |some p=>
   rw[rC tm hg];simp only[gG,BC,f0];grind
def rE (call:aG)(base:Nat)(ops:List eT):Tm->List Ob->List eE->(Tm->List Ob->List eE->R)->R:=
 List.rec (motive:=fun _=>Tm->List Ob->List eE->(Tm->List Ob->List eE->R)->R) (fun tm hp fs k=>k tm hp fs.reverse)
  (fun x _ ih tm hp fs k=>h_ x.gd tm (fun k=>yo call base x.op x.k (rM tm x.as) hp k) hp fun v hp f=>ih (put x.dst v tm) hp (f::fs) k) ops
def Hi (call:aG)(base:Nat):∀(ops:List eT) (tm:Tm) (hp:List Ob) (fs:List eE) (k:Tm->List Ob->List eE->R),rE call base ops tm hp fs k=match eR call base ops ⟨tm,hp⟩ fs with
  |none=>none
  |some (st,fs)=>k st.tm st.hp fs
 |[],tm,hp,fs,k=>rfl
 |x::r,tm,hp,fs,k=>by
  have step:∀v hp' f,rE call base r (put x.dst v tm) hp' (f::fs) k=match eR call base r ⟨put x.dst v tm,hp'⟩ (f::fs)with
   |none=>none
   |some (st,fs)=>k st.tm st.hp fs:=fun v hp' f=>Hi call base r _ _ _ _
  have run:(yo call base x.op x.k (rM tm x.as) hp fun v hp f=>rE call base r (put x.dst v tm) hp (f::fs) k)=match (match oZ call base x ⟨tm,hp⟩with
    |none=>none
    |some (st',f)=>eR call base r st' (f::fs))with
   |none=>none
   |some (st,fs)=>k st.tm st.hp fs:=by
   rw[Z6,DI];simp only[Di,oZ,õ,We];grind
  show h_ x.gd tm (fun k=>yo call base x.op x.k (rM tm x.as) hp k) hp (fun v hp f=>rE call base r (put x.dst v tm) hp (f::fs) k)=_;simp only[eR,h_];cases hg:x.gd with
  |none=>rw[rA tm hg];exact run
  |some p=>
   rw[rC tm hg];simp only[gF,BC,f0];grind
end
abbrev Sem:=aG->Nat->Nat->Tm->List Ob->K->(Nat->K)->K->R
noncomputable section
def Ng (d:D)(t e:R):R:=hE d none fun x=>q6 x none t e
def j4 (out:LN)(tm:Tm):Tm:=List.rec (motive:=fun _=>Tm) .nil (fun s _ ih=> .cons s (nP tm s) ih) out
def yp (tm:Tm):∀out,j4 out tm=fD out id tm
 |[]=>rfl
 |s::r=>by
  show Tm.cons s (nP tm s) (j4 r tm)=_;rw[f0,yp tm r];rfl
def rz (nal:Nat)(hp:List Ob):List Ob:=Nat.rec (motive:=fun _=>List Ob) hp (fun n _=>grow hp (List.replicate (n+1) .unborn)) nal
def Hc (nal:Nat)(hp:List Ob):rz nal hp=grow hp (List.replicate nal .unborn):=by cases nal<;>rfl
def Df (d:D)(e:R)(k:D->R):R:=
 D.rec (motive_1:=fun _=>R) (motive_2:=fun _=>PUnit.{1})
  (fun x=>oJ x fun x=>k (.p x)) (fun _ _=>e) (fun _ _=>e) (fun _ _=>e) (fun _ _ _=>e) (fun x off=>k (.ip x off))
  (fun _ _ _ _=>e) (fun g z es=>k (.sl g z es)) (fun _=>e) (fun _ _ _=>e) (fun _ _ _=>e) (k .junk) ⟨⟩ (fun _ _ _ _=>⟨⟩) d
def la:D->Bool
 | .p _=>true
 | .ip _ _=>true
 | .sl _ _ _=>true
 | .junk=>true
 |_=>false
def Qm (d:D)(e:R)(k:D->R):Df d e k=bif la d then k d else e:=by
 cases d<;>try rfl
 simp only[Df,qi,la,cond_true]
def Eb (live:LN)(tm:Tm)(e:R)(k:Tm->R):R:=
 List.rec (motive:=fun _=>(Tm->R)->R) (fun k=>k .nil) (fun s _ ih k=>Df (nP tm s) e fun d=>ih fun r=>k (.cons s d r)) live k
def BX (tm:Tm)(e:R):∀(live:LN) (k:Tm->R),Eb live tm e k=bif live.all (fun s=>la (get tm s))then k (fD live id tm)else e
 |[],k=>rfl
 |s::r,k=>by
  show Df (nP tm s) e (fun d=>Eb r tm e fun r=>k (.cons s d r))=_;rw[Qm,BX tm e r,f0];simp only[fD,id];grind
def Θ (m:Nat)(g:Gh)(tm:Tm)(hp:List Ob)(k:K):R:=caseO (eF m g ⟨tm,hp⟩) none fun st=>forceTm st.tm fun tm=>forceHb st.hp fun hp=>k tm hp
def Vv (m:Nat)(g:Gh)(tm:Tm)(hp:List Ob)(k:K):Θ m g tm hp k=caseO (eF m g ⟨tm,hp⟩) none fun st=>k st.tm st.hp:=by
 unfold Θ;congr 1;funext st;rw[qj,j1]
def DE (live:LN)(tm:Tm)(ws:LN):LN:=List.rec (motive:=fun _=>LN) ws (fun s _ ih=>Bm (nP tm s) ih) live
def yz (tm:Tm)(ws:LN):∀live,DE live tm ws=dids.didsL (live.map (get tm))++ws
 |[]=>rfl
 |s::r=>by
  show Bm (nP tm s) (DE r tm ws)=_;rw[ra,yz tm ws r,f0];simp only[List.map_cons,dids.didsL,lρ]
def Do (f:D->D)(live:LN)(tm:Tm):Tm:=List.rec (motive:=fun _=>Tm) .nil (fun s _ ih=> .cons s (f (nP tm s)) ih) live
def yu (f:D->D)(tm:Tm):∀live,Do f live tm=fD live f tm
 |[]=>rfl
 |s::r=>by
  show Tm.cons s (f (nP tm s)) (Do f r tm)=_;rw[f0,yu f tm r];rfl
def BF (m:Nat)(live:LN)(tm:Tm)(hp:List Ob)(k:K):R:=
 forceNs (eQ hp bf (DE live tm (iK m hp)) (List.range m)) fun ids=>
  forceTm (Do (gO (ji ids)) live tm) fun tm=>forceHb (mS ids hp) fun hp=>k tm hp
def yr (m:Nat)(live:LN)(tm:Tm)(hp:List Ob)(k:K):BF m live tm hp k=caseO (eF m (.keep live) ⟨tm,hp⟩) none fun st=>k st.tm st.hp:=by
 simp only[BF,j3,qj,j1,dF,yz,iA,yu,ka,jz,eF,caseO];have:∀ids,gO (idx ids)=mapD (idx ids):=fun ids=>funext fun d=>fW _ d
 simp_all
def VP (m:Nat)(live:LN)(tm:Tm)(hp:List Ob)(k:K):R:=
 List.rec (motive:=fun _=>R) (Nat.rec (motive:=fun _=>R) (Eb live tm (BF m live tm hp k) fun tm=>k tm []) (fun _ _=>BF m live tm hp k) m) (fun _ _ _=>BF m live tm hp k) hp
def HO (σ:Nat->Option Nat){d:D}(h:la d=true):mapD σ d=d:=by
 cases d<;>simp_all [la,mapD]
def GQ {d:D}(h:la d=true):dids d=[]:=by
 cases d<;>simp_all [la,dids]
def rb:∀{ds:List D},ds.all la=true->dids.didsL ds=[]
 |[],_=>rfl
 |d::r,h=>by
  simp only[List.all_cons,lγ]at h;simp only[dids.didsL,GQ h.1,rb h.2,mη]
def pn (σ:Nat->Option Nat)(tm:Tm):∀{live:LN},live.all (fun s=>la (get tm s))=true->fD live (mapD σ) tm=fD live id tm
 |[],_=>rfl
 |s::r,h=>by
  simp only[List.all_cons,lγ]at h;simp only[fD,HO σ h.1,pn σ tm h.2,id]
def VQ (m:Nat)(live:LN)(tm:Tm)(hp:List Ob)(k:K):VP m live tm hp k=caseO (eF m (.keep live) ⟨tm,hp⟩) none fun st=>k st.tm st.hp:=by
 cases hp with
 |cons o r=>exact yr _ _ _ _ _
 |nil=>
  cases m with
  |succ m=>exact yr _ _ _ _ _
  |zero=>
   show Eb live tm (BF 0 live tm [] k) (fun tm=>k tm [])=_;rw[BX,yr];cases h:live.all (fun s=>la (get tm s))
   ·rfl
   ·have hd:dids.didsL (live.map (get tm))=[]:=rb (by simp_all);simp only[eF,hd,caseO];rw[pn _ tm h];rfl
def BK (m:Nat)(live:LN)(body:Tm->List Ob->K->R)(fuel:Nat)(tm:Tm)(hp:List Ob):R:=
 Nat.rec (motive:=fun _=>Tm->List Ob->R) (fun _ _=>none) (fun _ ih tm hp=>VP m live tm hp fun tm hp=>body tm hp ih) fuel tm hp
def Ě:Sem:=fun _ _ _ tm hp kn _ _=>kn tm hp
def aaE:Sem:=fun _ _ _ tm hp _ _ kr=>kr tm hp
def č (id:Nat):Sem:=fun _ _ _ tm hp _ ke _=>ke id tm hp
def abw (a b:Sem):Sem:=fun c n m tm hp kn ke kr=>a c n m tm hp (fun tm hp=>b c n m tm hp kn ke kr) ke kr
def L_ (x:A)(t e:Sem):Sem:=fun c n m tm hp kn ke kr=>Ng (Zo tm x) (t c n m tm hp kn ke kr) (e c n m tm hp kn ke kr)
def Ŏ (id:Nat)(b:Sem):Sem:=fun c n m tm hp kn ke kr=>b c n m tm hp kn (fun i tm hp=>ql (Nat.beq i id) (kn tm hp) (ke i tm hp)) kr
def aas (live:LN)(b:Sem):Sem:=fun c n m tm hp _ ke kr=>BK m live (fun tm hp k=>b c n m tm hp k ke kr) n tm hp
def pd (m:Nat)(g:Gh)(k:K):K:=match LM g with|some h=>fun tm hp=>Θ m h tm hp k|none=>k
def ghS (g:Gh)(b:Sem):Sem:=fun c n m tm hp kn ke kr=>Θ m g tm hp fun tm hp=>b c n m tm hp (pd m g kn) (fun i=>pd m g (ke i)) (pd m g kr)
def abu (nal:Nat)(f:aG->Nat->Tm->List Ob->K->R):Sem:=fun c _ _ tm hp kn _ _=>f c hp.length tm (rz nal hp) kn
def abt (nal:Nat)(ps:List (Nat×Nat))(f:aG->Nat->Tm->List Ob->(Tm->List Ob->List eE->R)->R):Sem:=fun c _ _ tm hp kn _ _=>f c hp.length tm (rz nal hp) fun tm hp fs=>ql (fA fs ps) (kn tm hp) none
def aaC (nal:Nat)(ops:List eT)(prs:Option (List (Nat×Nat)))(out:LN):Sem:=
 match prs with
 |none=>abu nal fun call base tm hp k=>Dn call base ops tm hp fun tm hp=>k (j4 out tm) hp
 |some ps=>abt nal ps fun call base tm hp k=>rE call base ops tm hp [] fun tm hp fs=>k (j4 out tm) hp fs
def P6 (c:Co):Sem:=
 Co.rec (motive:=fun _=>Sem) Ě (fun nal ops prs out=>aaC nal ops prs out) (fun _ _ a b=>abw a b) (fun c _ _ t e=>L_ c t e) (fun id _ b=>Ŏ id b) (fun live _ b=>aas live b) (fun id=>č id) aaE (fun g _ c=>ghS g c) c
def t8 (r:Option (Ex×St))(kn:K)(ke:Nat->K)(kr:K):R:=
 match r with
 |none=>none
 |some (.norm,st)=>kn st.tm st.hp
 |some (.exit i,st)=>ke i st.tm st.hp
 |some (.ret,st)=>kr st.tm st.hp
def HM {m:Nat}{live:LN}{body:St->Option (Ex×St)}{bodyK:Tm->List Ob->K->(Nat->K)->K->R}{ke:Nat->K}{kr kn:K}(hb:∀tm hp kn,bodyK tm hp kn ke kr=t8 (body ⟨tm,hp⟩) kn ke kr):∀(fuel:Nat) (tm:Tm) (hp:List Ob),BK m live (fun tm hp k=>bodyK tm hp k ke kr) fuel tm hp=t8 (tU m body live fuel ⟨tm,hp⟩) kn ke kr
 |0,tm,hp=>rfl
 |n+1,tm,hp=>by
  show VP m live tm hp (fun tm hp=>bodyK tm hp (BK m live (fun tm hp k=>bodyK tm hp k ke kr) n) ke kr)=_;rw[VQ];simp only[tU];cases eF m (.keep live) ⟨tm,hp⟩with
  |none=>rfl
  |some st=>
   show bodyK st.tm st.hp (BK m live (fun tm hp k=>bodyK tm hp k ke kr) n) ke kr=_;rw[hb];show t8 (body st) _ ke kr=t8 (match body st with
    |some (.norm,st')=>tU m body live n st'
    |r=>r) kn ke kr
   cases body st with
   |none=>rfl
   |some p=>
    obtain⟨ex,st'⟩:=p;cases ex with
    |norm=>exact HM hb n _ _
    |exit i=>rfl
    |ret=>rfl
def Ô (m:Nat)(g:Gh)(o:Option (Ex×St))(kn:K)(ke:Nat->K)(kr:K):t8 o (pd m g kn) (fun i=>pd m g (ke i)) (pd m g kr)=t8 (yR m g o) kn ke kr:=by
 unfold pd yR;cases LM g with
 |none=>rfl
 |some h=>
  cases o with
  |none=>rfl
  |some p=>
   obtain⟨ex,st⟩:=p;cases ex<;>simp only[t8,Vv]<;>cases eF m h st<;>rfl
def nH (call:aG)(fuel m:Nat):∀(c:Co) (tm:Tm) (hp:List Ob) (kn:K) (ke:Nat->K) (kr:K),P6 c call fuel m tm hp kn ke kr=t8 (ce call fuel m c ⟨tm,hp⟩) kn ke kr
 | .skip,tm,hp,kn,ke,kr=>rfl
 | .ret,tm,hp,kn,ke,kr=>rfl
 | .exit i,tm,hp,kn,ke,kr=>rfl
 | .reg nal ops none out,tm,hp,kn,ke,kr=>by
  show Dn call hp.length ops tm (rz nal hp) (fun tm hp=>kn (j4 out tm) hp)=_;rw[NI,Hc];simp only[ce,rk];cases kO call hp.length ops ⟨tm,grow hp (List.replicate nal .unborn)⟩with
  |none=>rfl
  |some st=>simp only[t8,yp]
 | .reg nal ops (some ps) out,tm,hp,kn,ke,kr=>by
  show rE call hp.length ops tm (rz nal hp) [] (fun tm hp fs=>ql (fA fs ps) (kn (j4 out tm) hp) none)=_;rw[Hi,Hc];simp only[ce,rk];cases eR call hp.length ops ⟨tm,grow hp (List.replicate nal .unborn)⟩ []with
  |none=>rfl
  |some p=>
   obtain⟨st,fs⟩:=p;simp only[lb];cases fA fs ps
   ·rfl
   ·simp only[t8,cond_true,yp]
 | .seq a b,tm,hp,kn,ke,kr=>by
  show P6 a call fuel m tm hp (fun tm hp=>P6 b call fuel m tm hp kn ke kr) ke kr=_;rw[nH call fuel m a];simp only[ce];cases ce call fuel m a ⟨tm,hp⟩with
  |none=>rfl
  |some p=>
   obtain⟨ex,st⟩:=p;cases ex with
   |norm=>exact nH call fuel m b _ _ _ _ _
   |exit i=>rfl
   |ret=>rfl
 | .cond c t e,tm,hp,kn,ke,kr=>by
  show Ng (Zo tm c) (P6 t call fuel m tm hp kn ke kr) (P6 e call fuel m tm hp kn ke kr)=_;rw[nH call fuel m t,nH call fuel m e,Vh];simp only[ce];cases ev tm c<;>try rfl
  rename_i x;cases x<;>try rfl
  rename_i b;cases b<;>rfl
 | .block id b,tm,hp,kn,ke,kr=>by
  show P6 b call fuel m tm hp kn (fun i tm hp=>ql (Nat.beq i id) (kn tm hp) (ke i tm hp)) kr=_;rw[nH call fuel m b];simp only[ce];cases ce call fuel m b ⟨tm,hp⟩with
  |none=>rfl
  |some p=>
   obtain⟨ex,st⟩:=p;cases ex with
   |norm=>rfl
   |ret=>rfl
   |exit i=>
    simp only[t8,lb];cases Nat.beq i id<;>rfl
 | .loop live b,tm,hp,kn,ke,kr=>HM (fun tm hp kn=>nH call fuel m b tm hp kn ke kr) fuel tm hp
 | .gh g c,tm,hp,kn,ke,kr=>by
  show Θ m g tm hp (fun tm hp=>P6 c call fuel m tm hp (pd m g kn) (fun i=>pd m g (ke i)) (pd m g kr))=_;rw[Vv];simp only[ce];cases eF m g ⟨tm,hp⟩with
  |none=>rfl
  |some st=>exact(nH call fuel m c _ _ _ _ _).trans (Ô m g _ kn ke kr)
def Bz (hp:List Ob):∀{ds:List D},ds.all Jm=true->ru hp ds=(ds,hp)
 |[],_=>rfl
 |d::r,h=>by
  simp only[List.all_cons,lγ]at h;cases d<;>simp only[Jm,Bool.false_eq_true,false_and]at h;have e:ru hp r=(r,hp):=Bz hp h.2;simp only[ru,dids,List.map_nil,pur,dU,aw,e]
def Ql (m:Nat)(ds:List D)(hp:List Ob):R:=
 forceNs (eQ hp bf (dX ds (iK m hp)) (List.range m)) fun ids=>nN (gO (ji ids) (one ds)) fun r=>forceHb (mS ids hp) fun out=>some (r,out)
def Qk (m:Nat)(fz:Bool)(ds:List D)(hp:List Ob):R:=
 n8 ds (Bool.rec (motive:=fun _=>R) (Ql m ds hp) (Prod.rec (motive:=fun _=>R) (fun ds hp=>Ql m ds hp) (ru hp ds)) fz)
  fun ds=>Nat.rec (motive:=fun _=>R) (some (one ds,[])) (fun _ _=>Ql m ds hp) m
def Dc (m:Nat)(ds:List D)(hp:List Ob):Ql m ds hp=some (mapD (idx (cF hp bf (dids.didsL ds++(hp.take m).flatMap hO) (List.range m))) (one ds),cb (cF hp bf (dids.didsL ds++(hp.take m).flatMap hO) (List.range m)) hp):=by
 simp only[Ql,j3,Qn,j1,dF,ed,iA,fW,jz,ka]
def we (m:Nat)(fz:Bool)(ds:List D)(hp:List Ob):Qk m fz ds hp=some (gu m fz ds hp):=by
 unfold Qk;rw[jc];cases h:ds.all Jm
 ·cases fz with
  |false=>exact Dc m ds hp
  |true=>
   simp;exact Dc _ _ _
 ·have e:(bif fz then ru hp ds else(ds,hp))=(ds,hp):=by cases fz<;>simp[Bz hp h]
  cases m with
  |succ m=>
   show Ql (m+1) ds hp=_;rw[Dc];simp only[gu,e]
  |zero=>
   have hp1:yS (one ds)=true:=by
    unfold one;split
    ·rename_i d;cases d<;>simp_all [Jm,yS]
    ·exact h
   simp only[gu,e,oH h,List.range_zero];rw[tX _ hp1];rfl
def rvK (tm:Tm)(hp:List Ob)(r:Rv)(k:D->R):R:=
 Rv.rec (motive:=fun _=>R) (fun n=>k (nP tm n)) (fun a n agg=>D.rec (motive_1:=fun _=>R) (motive_2:=fun _=>PUnit.{1})
  (fun _=>none) (fun _ _=>none) (fun _ _=>none) (fun id off=>kL (H0 hp id) none fun cs=>Mi cs off n fun ds=>qx agg ds k) (fun _ _ _=>none) (fun _ _=>none) (fun _ _ _ _=>none) (fun _ _ _=>none) (fun _=>none) (fun _ _ _=>none) (fun _ _ _=>none) none ⟨⟩ (fun _ _ _ _=>⟨⟩) (nP tm a)) r
def ϫ (tm:Tm)(hp:List Ob)(r:Rv)(k:D->R):rvK tm hp r k=caseO (G4 ⟨tm,hp⟩ r) none k:=by
 cases r with
 |t n=>simp only[rvK,G4,f0,caseO]
 |cell a n agg=>
  simp only[rvK,G4,f0,lg,sd,lH];cases get tm a<;>try rfl
  rename_i id off;have:aS hp id=hp.getD id .dead:=rfl;simp only[this];cases hp.getD id .dead<;>try rfl
  rename_i cs;simp only[kL];cases sub cs off n<;>rfl
def Q3 (tm:Tm)(hp:List Ob)(rs:List Rv)(k:List D->R):R:=
 List.rec (motive:=fun _=>(List D->R)->R) (fun k=>k []) (fun r _ ih k=>rvK tm hp r fun d=>ih fun ds=>k (d::ds)) rs k
def Oe (tm:Tm)(hp:List Ob):∀(rs:List Rv) (k:List D->R),Q3 tm hp rs k=caseO (j0 ⟨tm,hp⟩ rs) none k
 |[],k=>rfl
 |r::rs,k=>by
  show rvK tm hp r (fun d=>Q3 tm hp rs fun ds=>k (d::ds))=_;rw[ϫ];simp only[Oe tm hp rs,j0];cases G4 ⟨tm,hp⟩ r with
  |none=>rfl
  |some d=>
   cases j0 ⟨tm,hp⟩ rs<;>rfl
def As (b:Sem)(call:aG)(n:Nat)(res:List Rv)(fz:Bool)(args:List D)(hp:List Ob):R:=
 b call n hp.length (eX args 0) hp (fun tm hp'=>Q3 tm hp' res fun ds=>Qk hp.length fz ds hp') (fun _ _ _=>none) (fun tm hp'=>Q3 tm hp' res fun ds=>Qk hp.length fz ds hp')
def wC (call:aG)(fuel:Nat)(x:Fx)(args:List D)(hp:List Ob):As (P6 x.body) call fuel x.res x.fz args hp=cU call fuel x args hp:=by
 unfold As cU og;simp only[Oe];rw[nH];cases ce call fuel hp.length x.body ⟨eX args 0,hp⟩with
 |none=>rfl
 |some p=>
  obtain⟨ex,st⟩:=p;cases ex with
  |norm=>
   simp only[t8,we];cases j0 st x.res<;>rfl
  |ret=>
   simp only[t8,we];cases j0 st x.res<;>rfl
  |exit i=>rfl
inductive Hn where
 |code (b:Sem) (res:List Rv) (fz:Bool)
 |prim (g:LD->Option (D×List Ob))
 |both (g:LD->Option (D×List Ob)) (b:Sem) (res:List Rv) (fz:Bool)
 |any (g:List D->List Ob->Option (D×List Ob))
def hn (tab:Option Hn)(ih:aG)(n:Nat)(args:List D)(hp:List Ob):R:=
 Option.rec (motive:=fun _=>R) none (fun h=>Hn.rec (motive:=fun _=>R) (fun b res fz=>As b ih n res fz args hp) (fun g=>match iV args with
   |some xs=>match hp with
    |[]=>g xs
    |_=>none
   |none=>none) (fun g b res fz=>match iV args with
   |some xs=>match hp with
    |[]=>g xs
    |_=>As b ih n res fz args hp
   |none=>As b ih n res fz args hp) (fun g=>g args hp) h) tab
def KQ (tab:Nat->Option Hn)(n:Nat):aG:=
 Nat.rec (motive:=fun _=>aG) (fun _ _ _=>none) (fun n ih f args hp=>hn (tab f) ih n args hp) n
def same (a:Option Hn)(b:Option Fn):Prop:=
 match a,b with
 |none,none=>True
 |some (.code g res fz),some (.code x)=>P6 x.body=g/\x.res=res/\x.fz=fz
 |some (.prim g),some (.prim h)=>g=h
 |some (.both g b res fz),some (.both h x)=>g=h/\P6 x.body=b/\x.res=res/\x.fz=fz
 |some (.any g),some (.any h)=>g=h
 |_,_=>False
def Vj {tabH:Nat->Option Hn}{tab:Nat->Option Fn}(h:∀f,same (tabH f) (tab f)):∀n,KQ tabH n=evFn tab n
 |0=>by rfl
 |n+1=>by
  funext f args hp
  show hn (tabH f) (KQ tabH n) n args hp=_;rw[Vj h n];have hf:=h f;simp only[evFn,ϑ];cases h1:tabH f with
  |none=>
   rw[h1]at hf;cases h2:tab f with
   |none=>rfl
   |some x=>rw[h2]at hf;cases x<;>exact hf.elim
  |some a=>
   rw[h1]at hf;cases h2:tab f with
   |none=>rw[h2]at hf;cases a<;>exact hf.elim
   |some x=>
    rw[h2]at hf;cases a with
    |code g res fz=>
     cases x with
     |code x=>
      obtain⟨h3,rfl,rfl⟩:=hf;show As g (evFn tab n) n x.res x.fz args hp=_;rw[<-h3,wC]
     |prim q=>exact hf.elim
     |both q x=>exact hf.elim
     |any q=>exact hf.elim
    |prim g=>
     cases x with
     |code x=>exact hf.elim
     |prim q=>obtain rfl:g=q:=hf;rfl
     |both q x=>exact hf.elim
     |any q=>exact hf.elim
    |both g b res fz=>
     cases x with
     |code x=>exact hf.elim
     |prim q=>exact hf.elim
     |both q x=>
      obtain⟨rfl,h3,rfl,rfl⟩:=hf;show(match iV args with
       |some xs=>match hp with
        |[]=>g xs
        |_=>As b (evFn tab n) n x.res x.fz args hp
       |none=>As b (evFn tab n) n x.res x.fz args hp)=_
      rw[<-h3,wC];rfl
     |any q=>exact hf.elim
    |any g=>
     cases x with
     |code x=>exact hf.elim
     |prim q=>exact hf.elim
     |both q x=>exact hf.elim
     |any q=>obtain rfl:g=q:=hf;rfl
def Z1 (b:Bool)(x y:Option Hn):Option Hn:=Bool.rec (motive:=fun _=>Option Hn) y x b
def uc {b:Bool}{x y:Option Hn}{x' y':Option Fn}(h:same x x')(k:same y y'):same (Z1 b x y) (bif b then x' else y'):=by
 cases b
 ·exact k
 ·exact h
end
section
def p6 (a b:Bool):Bool:=Bool.rec (motive:=fun _=>Bool) false b a
def qW (a b:Bool):p6 a b=(a&&b):=by cases a<;>rfl
def aaR (y:Da)(k:IntKind->Int->Bool):Bool:=
 Da.rec (motive_1:=fun _=>Bool) (motive_2:=fun _=>PUnit.{1}) (fun _=>false) (fun i n=>k i n) (fun _=>false) (fun _ _=>false) (fun _ _ _=>false) false (fun _ _=>false) (fun _ _ _ _=>false) false (fun _ _ _=>false) false (fun _ _ _=>false) false (fun _ _ _=>false) (fun _ _=>false) ⟨⟩ (fun _ _ _ _=>⟨⟩) y
def aaT (y:Da)(k:LN->Bool):Bool:=
 Da.rec (motive_1:=fun _=>Bool) (motive_2:=fun _=>PUnit.{1}) (fun _=>false) (fun _ _=>false) (fun s=>k s) (fun _ _=>false) (fun _ _ _=>false) false (fun _ _=>false) (fun _ _ _ _=>false) false (fun _ _ _=>false) false (fun _ _ _=>false) false (fun _ _ _=>false) (fun _ _=>false) ⟨⟩ (fun _ _ _ _=>⟨⟩) y
def aaQ (y:Da)(k:LD->Bool):Bool:=
 Da.rec (motive_1:=fun _=>Bool) (motive_2:=fun _=>PUnit.{1}) (fun _=>false) (fun _ _=>false) (fun _=>false) (fun cs _=>k cs) (fun _ _ _=>false) false (fun _ _=>false) (fun _ _ _ _=>false) false (fun _ _ _=>false) false (fun _ _ _=>false) false (fun _ _ _=>false) (fun _ _=>false) ⟨⟩ (fun _ _ _ _=>⟨⟩) y
def W0 (y:Da)(k:Nat->LD->Bool):Bool:=
 Da.rec (motive_1:=fun _=>Bool) (motive_2:=fun _=>PUnit.{1}) (fun _=>false) (fun _ _=>false) (fun _=>false) (fun _ _=>false) (fun z es _=>k z es) false (fun _ _=>false) (fun _ _ _ _=>false) false (fun _ _ _=>false) false (fun _ _ _=>false) false (fun _ _ _=>false) (fun _ _=>false) ⟨⟩ (fun _ _ _ _=>⟨⟩) y
def Ov (y:Da)(k:Nat->LD->Bool):Bool:=
 Da.rec (motive_1:=fun _=>Bool) (motive_2:=fun _=>PUnit.{1}) (fun _=>false) (fun _ _=>false) (fun _=>false) (fun _ _=>false) (fun _ _ _=>false) false (fun _ _=>false) (fun _ _ _ _=>false) false (fun _ _ _=>false) false (fun _ _ _=>false) false (fun z es _=>k z es) (fun _ _=>false) ⟨⟩ (fun _ _ _ _=>⟨⟩) y
def Vd (m n:Int):Bool:=Int.rec (motive:=fun _=>Bool) (fun a=>Int.rec (motive:=fun _=>Bool) (fun b=>Nat.beq a b) (fun _=>false) n) (fun a=>Int.rec (motive:=fun _=>Bool) (fun _=>false) (fun b=>Nat.beq a b) n) m
def Zi {m n:Int}(h:Vd m n=true):m=n:=by
 cases m<;>cases n<;>simp only[Vd,Bool.false_eq_true]at h;all_goals simp_all
def G1:∀{a b:LN},cM a b=true->a=b
 |[],[],_=>rfl
 |[],_::_,h=>by simp[cM]at h
 |_::_,[],h=>by simp[cM]at h
 |x::a,y::b,h=>by
  simp only[cM]at h;cases hx:Nat.beq x y
  ·simp_all
  ·simp only[hx,cond_true]at h;rw[lν hx,G1 h]
def Zh (x:Da):Da->Bool:=
 Da.rec (motive_1:=fun _=>Da->Bool) (motive_2:=fun _=>LD->Bool)
  (fun _ _=>false) (fun i n y=>aaR y fun j m=>p6 (Nat.beq (kc i) (kc j)) (Vd n m)) (fun s y=>aaT y fun t=>KP s t) (fun _ ih y=>aaQ y ih) (fun z _ ih y=>W0 y fun z' es'=>p6 (Nat.beq z z') (ih es'))
  (fun _=>false) (fun _ _ _=>false) (fun _ _ _ _ _=>false) (fun _=>false) (fun _ _ _ _=>false) (fun _=>false) (fun _ _ _ _=>false) (fun _=>false) (fun z _ ih y=>Ov y fun z' es'=>p6 (Nat.beq z z') (ih es')) (fun _ _ _=>false)
  (fun ys=>List.rec (motive:=fun _=>Bool) true (fun _ _ _=>false) ys) (fun _ _ ihd ihr ys=>List.rec (motive:=fun _=>Bool) false (fun y ys _=>p6 (ihd y) (ihr ys)) ys) x
def GZ (xs:LD):LD->Bool:=
 List.rec (motive:=fun _=>LD->Bool) (fun ys=>List.rec (motive:=fun _=>Bool) true (fun _ _ _=>false) ys) (fun x _ ih ys=>List.rec (motive:=fun _=>Bool) false (fun y ys _=>p6 (Zh x y) (ih ys)) ys) xs
mutual
def Nt:∀(x y:Da),Zh x y=true->x=y
 | .bool _,y,h=>absurd (show false=true from h) Bool.false_ne_true
 | .int i n,y,h=>by
  cases y<;>try exact absurd (show false=true from h) Bool.false_ne_true
  rename_i j m;have h':p6 (Nat.beq (kc i) (kc j)) (Vd n m)=true:=h;rw[qW,VO,lγ,lδ]at h';rw[h'.1,Zi h'.2]
 | .str s,y,h=>by
  cases y<;>try exact absurd (show false=true from h) Bool.false_ne_true
  rename_i t;have h':KP s t=true:=h;rw[C6]at h';rw[G1 h']
 | .agg cs,y,h=>by
  cases y<;>try exact absurd (show false=true from h) Bool.false_ne_true
  rename_i cs';rw[wd cs cs' h]
 | .slice z es,y,h=>by
  cases y<;>try exact absurd (show false=true from h) Bool.false_ne_true
  rename_i z' es';have h':p6 (Nat.beq z z') _=true:=h;rw[qW,lγ]at h';rw[lν h'.1,wd es es' h'.2]
 | .nilptr,y,h=>absurd (show false=true from h) Bool.false_ne_true
 | .ptr _,y,h=>absurd (show false=true from h) Bool.false_ne_true
 | .map _ _,y,h=>absurd (show false=true from h) Bool.false_ne_true
 | .nilmap,y,h=>absurd (show false=true from h) Bool.false_ne_true
 | .fn _ _,y,h=>absurd (show false=true from h) Bool.false_ne_true
 | .nilfn,y,h=>absurd (show false=true from h) Bool.false_ne_true
 | .iface _ _,y,h=>absurd (show false=true from h) Bool.false_ne_true
 | .nilif,y,h=>absurd (show false=true from h) Bool.false_ne_true
 | .sliceE z es,y,h=>by
  cases y<;>try exact absurd (show false=true from h) Bool.false_ne_true
  rename_i z' es';have h':p6 (Nat.beq z z') _=true:=h;rw[qW,lγ]at h';rw[lν h'.1,wd es es' h'.2]
 | .sym _ _,y,h=>absurd (show false=true from h) Bool.false_ne_true
def wd:∀(xs ys:LD),Da.rec_1 (motive_1:=fun _=>Da->Bool) (motive_2:=fun _=>LD->Bool)
  (fun _ _=>false) (fun i n y=>aaR y fun j m=>p6 (Nat.beq (kc i) (kc j)) (Vd n m)) (fun s y=>aaT y fun t=>KP s t) (fun _ ih y=>aaQ y ih) (fun z _ ih y=>W0 y fun z' es'=>p6 (Nat.beq z z') (ih es'))
  (fun _=>false) (fun _ _ _=>false) (fun _ _ _ _ _=>false) (fun _=>false) (fun _ _ _ _=>false) (fun _=>false) (fun _ _ _ _=>false) (fun _=>false) (fun z _ ih y=>Ov y fun z' es'=>p6 (Nat.beq z z') (ih es')) (fun _ _ _=>false)
  (fun ys=>List.rec (motive:=fun _=>Bool) true (fun _ _ _=>false) ys) (fun _ _ ihd ihr ys=>List.rec (motive:=fun _=>Bool) false (fun y ys _=>p6 (ihd y) (ihr ys)) ys) xs ys=true->xs=ys
 |[],[],_=>rfl
 |[],_::_,h=>by cases h
 |_::_,[],h=>by cases h
 |x::xs,y::ys,h=>by
  have h':p6 (Zh x y) _=true:=h;rw[qW,lγ]at h';rw[Nt x y h'.1,wd xs ys h'.2]
end
def G0:∀{xs ys:LD},GZ xs ys=true->xs=ys
 |[],[],_=>rfl
 |[],_::_,h=>by cases h
 |_::_,[],h=>by cases h
 |x::xs,y::ys,h=>by
  have h':p6 (Zh x y) (GZ xs ys)=true:=h;rw[qW,lγ]at h';rw[Nt x y h'.1,G0 h'.2]
def memo (l:List (LD×R))(xs:LD):R:=
 List.rec (motive:=fun _=>R) none (fun p _ ih=>Bool.rec (motive:=fun _=>R) ih p.2 (GZ p.1 xs)) l
def HP:∀{l:List (LD×R)} {xs:LD} {ro:D×List Ob},memo l xs=some ro->∃p∈l,p.1=xs/\p.2=some ro
 |[],xs,ro,h=>by cases h
 |p::l,xs,ro,h=>by
  have h':Bool.rec (motive:=fun _=>R) (memo l xs) p.2 (GZ p.1 xs)=some ro:=h;cases he:GZ p.1 xs
  ·rw[he]at h';obtain⟨q,h1,h2⟩:=HP (l:=l) h';grind
  ·rw[he]at h';exact⟨p,lχ ..,G0 he,h'⟩
variable [Letters]
def BP (l:List (LD×R))(call:aG)(f:Nat)(xs:LD):R:=
 Option.rec (motive:=fun _=>R) (call f (xs.map .p) []) (fun r=>some r) (memo l xs)
theorem yC {P:Program}{G:bP}{call:aG}(hc:eK P G call){f:Nat}{l:List (LD×R)}(h:∀p∈l,p.2=none\/call f (p.1.map .p) []=p.2):fe P G f (BP l call f):=by
 intro xs r out hm;have hcall:call f (xs.map .p) []=some (r,out):=by
  unfold BP at hm;cases hq:memo l xs with
  |none=>simp_all
  |some ro=>
   rw[hq]at hm;obtain⟨p,hp,hx,hr⟩:=HP hq;grind
 obtain⟨c1,c2⟩:=hc f _ [] _ _ hcall;refine⟨c1,fun w S vs hS hg hv=>?_⟩
 exact c2 [] w S vs ⟨rfl,by simp,by rintro b ⟨id,l,o,h,_⟩;simp at h,by simp,hS⟩ hg (Pw.map_left (by simpa only[VR]using hv))
end
def eY (n bytes:Nat):Bool:=Nat.ble ((2*(0+n)+192)*bytes) 281474976710656&&Nat.ble (2*(0+n)+192) 9223372036854775807
def oS (z bytes:Nat):LD->Option (D×List Ob)
 |[.slice z' es]=>bif Nat.beq z' z&&eY es.length bytes then some (.p (.slice z es),[])else none
 |_=>none
def eo (z bytes:Nat):LD->Option (D×List Ob)
 |[.slice z' es]=>bif Nat.beq z' z&&eY es.length bytes then some (.arr 0 0 es.length z,[.arr es])else none
 |_=>none
def BE (n:Int):LN:=(Lib.itoa n).map UInt8.toNat
def lJ:LD->Option (D×List Ob)
 |[.int .i64 n]=>bif aV (-9223372036854775808) n&&aV n 9223372036854775807 then some (.p (.str (BE n)),[])else none
 |_=>none
section
variable [Letters]
def rW {P : Program} {G : bP} {call : aG} (hcall : eK P G call) (hmix : P.follows .mixedOrders = true) {raw : Nat → Bool} {f fuel : Nat} {fn : Func} {x : Fx} (hf : P.funcs[f]? = some fn) (hx : yh P G raw fn x) (hn : (fn.name == "runtime.NumGoroutine") = false)
  {g:LD->Option (D×List Ob)} (h:∀xs r out,g xs=some (r,out)->∃z es,xs=[.slice z es]/\(es=[]->cU call fuel x [.sl .na z []] []=some (r,out))/\cU call fuel x [.sl .some z es] []=some (r,out)):fe P G f g:=by
 intro xs r out hg;obtain⟨z,es,rfl,h1,h2⟩:=h xs r out hg;refine⟨⟨fn,hf,?_,hn⟩,fun w S vs hS hgr hv=>?_⟩
 ·cases hb:fn.body with
  |none=>obtain⟨h4,_⟩:=hx;simp_all
  |some c=>rfl
 ·obtain⟨v,us,rfl,hv1,hv2⟩:=hv.cons_inv;obtain rfl:=hv2.nil_inv;have hr:HR [] w S []:=⟨rfl,by simp,by rintro b ⟨id,l,o,h,_⟩;simp at h,by simp,hS⟩
  have hv3:=hv1;obtain⟨a,cap,us,rfl,k1,k2,k3⟩:=hv3;cases a with
  |none=>
   have hus:us=[]:=by
    simp_all
   subst hus;have hes:es=[]:=by
    have:=(PRs_iff.1 k2).1;simp_all
   have hvr:VR [] w S (.sl .na z []) (.slice none 0 cap):=by
    exact⟨none,cap,[],rfl,by simp,by rfl,by rfl,by simp⟩
   exact Vr hcall hmix hf hx (h1 hes) hr hgr (Pw.cons hvr Pw.nil)
  |some a=>
   have hvr:VR [] w S (.sl .some z es) (.slice (some a) us.length cap):=by
    exact⟨some a,cap,us,rfl,k1,by simp[gt],k2,k3⟩
   exact Vr hcall hmix hf hx h2 hr hgr (Pw.cons hvr Pw.nil)
def DN {P:Program}{G:bP}:eK P G (fun _ _ _=>none):=by intro f ds hp r out h;cases h
theorem UB {P : Program} {G : bP} (hmix : P.follows .mixedOrders = true) {raw : Nat → Bool} {f : Nat} {fn : Func} {x : Fx} (hf : P.funcs[f]? = some fn) (hx : yh P G raw fn x) (hn : (fn.name == "runtime.NumGoroutine") = false) {z bytes : Nat}
  (h0:cU (fun _ _ _=>none) 0 x [.sl .na z []] []=some (.p (.slice z []),[]))
  (h1:cU (fun _ _ _=>none) 0 x [.sl .some z []] []=some (.p (.slice z []),[]))
  (h2:∀e es,cU (fun _ _ _=>none) 0 x [.sl .some z (e::es)] []=bif eY (es.length+1) bytes then some (.p (.slice z ((e::es).take (0+(es.length+1)))),[])else none):fe P G f (oS z bytes):=by
 refine rW DN hmix (fuel:=0) hf hx hn fun xs r out hg=>?_
 unfold oS at hg;split at hg
 ·rename_i z' es;cases hz:Nat.beq z' z
  ·simp_all
  ·simp only[hz,Bool.true_and]at hg;cases hr:eY es.length bytes
   ·simp_all
   ·simp only[hr,lτ]at hg;refine⟨z',es,rfl,fun he=>by simp_all,?_⟩
    cases es<;>simp_all
 ·grind
theorem P1 {P : Program} {G : bP} (hmix : P.follows .mixedOrders = true) {raw : Nat → Bool} {f : Nat} {fn : Func} {x : Fx} (hf : P.funcs[f]? = some fn) (hx : yh P G raw fn x) (hn : (fn.name == "runtime.NumGoroutine") = false) {z bytes : Nat}
  (h0:cU (fun _ _ _=>none) 0 x [.sl .na z []] []=some (.arr 0 0 0 z,[.arr []]))
  (h1:cU (fun _ _ _=>none) 0 x [.sl .some z []] []=some (.arr 0 0 0 z,[.arr []]))
  (h2:∀e es,cU (fun _ _ _=>none) 0 x [.sl .some z (e::es)] []=bif eY (es.length+1) bytes then some (.arr 0 0 (0+(es.length+1)) z,[.arr (e::es)])else none):fe P G f (eo z bytes):=by
 refine rW DN hmix (fuel:=0) hf hx hn fun xs r out hg=>?_
 unfold eo at hg;split at hg
 ·rename_i z' es;cases hz:Nat.beq z' z
  ·simp_all
  ·simp only[hz,Bool.true_and]at hg;cases hr:eY es.length bytes
   ·simp_all
   ·simp only[hr,lτ]at hg;refine⟨z',es,rfl,fun he=>by simp_all,?_⟩
    cases es<;>simp_all
 ·grind
def k8 (z:Nat)(zd:Da)(bytes:Nat):Fx:=⟨(.seq (.reg 0 [⟨(some 2),.mv,[(.n z)],0,none⟩] none [0]) (.seq (.seq (.reg 0 [⟨(some 3),.mv,[(.t 0)],0,none⟩,⟨(some 4),(.binN 1 .eql),[(.t 3),(.n z)],0,none⟩] none [0,4]) (.cond (.t 4) (.seq (.reg 0 [⟨(some 2),.mv,[(.n z)],0,none⟩] none [2]) .ret) .skip)) (.seq (.reg 1 [⟨(some 5),(.bsl z zd 0 []),[],0,none⟩,⟨(some 6),.mv,[(.t 0)],0,none⟩,⟨(some 7),(.app z bytes),[(.t 5),(.t 6)],0,none⟩,⟨(some 2),.mv,[(.t 7)],1,none⟩] none [2]) .ret))),[(.t 2)],true⟩
def T3 (z bytes:Nat)(e:Da)(es:LD):m4 z bytes 0 0 [.sl .exact z [],.sl .some z (e::es)] [] []=bif eY (es.length+1) bytes then some (.arr 0 0 (0+(es.length+1)) z,[(0,.arr (e::es))],[])else none:=by
 simp only[m4,kK,wF,List.isEmpty_nil,cond_true,elems,mV,show Nat.beq z z=true from Nat.beq_refl z,Bool.true_or,Bool.true_and,List.isEmpty_cons,Bool.false_and,cond_false,List.length_nil,List.length_cons,List.nil_append,eY]
def GB (z bytes:Nat)(e:Da)(es:LD)(k:KV):dL (fun _ _ _=>none) 0 (.app z bytes) 0 [.sl .exact z [],.sl .some z (e::es)] [.unborn] k=bif eY (es.length+1) bytes then k (.arr 0 0 (0+(es.length+1)) z) [.arr (e::es)]else none:=by
 have:dL (fun _ _ _=>none) 0 (.app z bytes) 0 [.sl .exact z [],.sl .some z (e::es)] [.unborn] k=match m4 z bytes 0 0 [.sl .exact z [],.sl .some z (e::es)] [] []with
  |none=>none
  |some (v,ups,new)=>k v (grow (aw [.unborn] ups) new):=rfl
 rw[this,T3];cases eY (es.length+1) bytes<;>rfl
def P2 (z:Nat)(zd:Da)(bytes:Nat)(e:Da)(es:LD):cU (fun _ _ _=>none) 0 (k8 z zd bytes) [.sl .some z (e::es)] []=bif eY (es.length+1) bytes then some (.p (.slice z ((e::es).take (0+(es.length+1)))),[])else none:=by
 rw[<-wC];have h:As (P6 (k8 z zd bytes).body) (fun _ _ _=>none) 0 (k8 z zd bytes).res (k8 z zd bytes).fz [.sl .some z (e::es)] []=dL (fun _ _ _=>none) 0 (.app z bytes) 0 [.sl .exact z [],.sl .some z (e::es)] [.unborn] (fun v hp=>f7 v fun v=>oL hp fun hp=>Q3 (.cons 2 v .nil) hp [.t 2] fun ds=>Qk 0 true ds hp):=by rfl
 rw[h,GB];cases eY (es.length+1) bytes
 ·rfl
 ·simp only[j2,we];rfl
def cB (z:Nat)(zd:Da)(bytes:Nat):Fx:=⟨(.seq (.reg 0 [⟨(some 2),.mv,[(.n z)],0,none⟩] none [0]) (.seq (.seq (.reg 0 [⟨(some 3),.mv,[(.t 0)],0,none⟩,⟨(some 4),(.binN 1 .eql),[(.t 3),(.n z)],0,none⟩] none [0,4]) (.cond (.t 4) (.seq (.reg 0 [⟨(some 2),.mv,[(.n z)],0,none⟩] none [2]) (.gh (.own 2 z) .ret)) .skip)) (.seq (.reg 1 [⟨(some 5),(.bsl z zd 0 []),[],0,none⟩,⟨(some 6),.mv,[(.t 0)],0,none⟩,⟨(some 7),(.app z bytes),[(.t 5),(.t 6)],0,none⟩,⟨(some 2),.mv,[(.t 7)],1,none⟩] none [2]) .ret))),[(.t 2)],false⟩
def KG (z:Nat)(zd:Da)(bytes:Nat)(e:Da)(es:LD):cU (fun _ _ _=>none) 0 (cB z zd bytes) [.sl .some z (e::es)] []=bif eY (es.length+1) bytes then some (.arr 0 0 (0+(es.length+1)) z,[.arr (e::es)])else none:=by
 rw[<-wC];have h:As (P6 (cB z zd bytes).body) (fun _ _ _=>none) 0 (cB z zd bytes).res (cB z zd bytes).fz [.sl .some z (e::es)] []=dL (fun _ _ _=>none) 0 (.app z bytes) 0 [.sl .exact z [],.sl .some z (e::es)] [.unborn] (fun v hp=>f7 v fun v=>oL hp fun hp=>Q3 (.cons 2 v .nil) hp [.t 2] fun ds=>Qk 0 false ds hp):=by rfl
 rw[h,GB];cases eY (es.length+1) bytes
 ·rfl
 ·simp only[j2,we];rfl
def j7 (z bytes:Nat)(ds:List D)(hp:List Ob):Option (D×List Ob):=
 match ds,hp with
 |[.p x],[]=>eo z bytes [x]
 |[.arr id lo len z'],[.arr es]=>bif Nat.beq id 0&&(Nat.beq z' z&&(Nat.ble (lo+len) es.length&&eY len bytes))then some (.arr 1 0 len z,[.arr es,.arr ((es.drop lo).take len)])else none
 |_,_=>none
theorem P0 {P : Program} {G : bP} (hmix : P.follows .mixedOrders = true) {raw : Nat → Bool} {f : Nat} {fn : Func} {z bytes : Nat} {zd : Da} (hf : P.funcs[f]? = some fn) (hx : yh P G raw fn (cB z zd bytes)) (hn : (fn.name == "runtime.NumGoroutine") = false)
  (hp:fe P G f (eo z bytes)) (g0:∀es,cU (fun _ _ _=>none) 0 (cB z zd bytes) [.sl .na z []] [.arr es]=some (.arr 1 0 0 z,[.arr es,.arr []])) (g1:∀es,cU (fun _ _ _=>none) 0 (cB z zd bytes) [.sl .some z []] [.arr es]=some (.arr 1 0 0 z,[.arr es,.arr []])) (g2:∀lo n es,((es.drop lo).take (n+1)).length=n+1->eY (n+1) bytes=true->cU (fun _ _ _=>none) 0 (cB z zd bytes) [.arr 0 lo (n+1) z] [.arr es]=some (.arr 1 0 (n+1) z,[.arr es,.arr ((es.drop lo).take (n+1))])): @EM _ mvNone P G f (j7 z bytes):=by
 intro ds hq r out hg;unfold j7 at hg;split at hg
 ·rename_i x;obtain⟨k1,k2⟩:=hp [x] r out hg;refine⟨k1,fun φ w S vs hr hgr hv=>?_⟩
  have hφ:φ=[]:=lθ hr.len;subst hφ;exact(k2 w S vs hr.low hgr ((Pw.of_map_left (f:=D.p) (xs:=[x]) hv).mono fun _ _ h=>by simpa only[VR]using h)).mono fun e w' q=>q
 ·rename_i id lo len z' es;cases hc:Nat.beq id 0&&(Nat.beq z' z&&(Nat.ble (lo+len) es.length&&eY len bytes))with
  |false=>rw[hc]at hg;cases hg
  |true=>
  rw[hc]at hg;simp only[cond_true,lβ,lτ]at hg;obtain⟨rfl,rfl⟩:=hg;simp only[lγ,beq_eq,ble_eq,lδ]at hc;obtain⟨rfl,rfl,hle,hro⟩:=hc;refine⟨⟨fn,hf,?_,hn⟩,fun φ w S vs hr hgr hv=>?_⟩
  ·cases hb:fn.body with
   |none=>obtain⟨h4,_⟩:=hx;rw[hb]at h4;simp at h4
   |some c=>rfl
  obtain⟨v,us,rfl,hv1,hv2⟩:=hv.cons_inv;obtain rfl:=hv2.nil_inv;have run:∀d,VR φ w S d v->cU (fun _ _ _=>none) 0 (cB z' zd bytes) [d] [.arr es]=some (.arr 1 0 len z',[.arr es,.arr ((es.drop lo).take len)])->Calls P f [v].toArray w (RetOk φ [.arr es] w S (.arr 1 0 len z') [.arr es,.arr ((es.drop lo).take len)] 1):=fun d hd he=>
   Vr DN hmix hf hx he hr hgr (Pw.cons hd Pw.nil)
  cases len with
  |zero=>
   rw[List.take_zero]at run ⊢
   have hv3:=hv1;simp only[VR]at hv3;obtain⟨b,o,cap,n,a,k1,k2,k3,rfl,k4⟩:=hv3;cases a with
   |none=>exact run (.sl .na z' []) (by simp only[VR];exact⟨none,_,[],rfl,by simp,by simp[gt],by simp[qH],by simp⟩) (g0 es)
   |some a=>exact run (.sl .some z' []) (by simp only[VR];exact⟨some a,_,[],rfl,by simp,by simp[gt],by simp[qH],by simp⟩) (g1 es)
  |succ n=>
   have hl:((es.drop lo).take (n+1)).length=n+1:=by rw[mε,mχ];omega
   exact run _ hv1 (g2 lo n es hl hro)
 ·cases hg
theorem Ol {P:Program}{G:bP}{tab:Nat->Option Fn}(h:pj P G tab){k:Nat}{g:LD->Option (D×List Ob)}(hg:fe P G k g):pj P G (fun f=>bif Nat.beq f k then some (.prim g)else tab f):=by
 refine⟨fun f x hx=>?_,fun f g' hx=>?_,fun f g' x hx=>?_,fun f g' hx=>?_⟩
 ·cases hk:Nat.beq f k
  ·rw[hk]at hx;exact h.code f x hx
  ·rw[hk]at hx;simp at hx
 ·cases hk:Nat.beq f k
  ·rw[hk]at hx;exact h.prim f g' hx
  ·rw[hk]at hx;simp only[cond_true,lβ,Fn.prim.injEq]at hx;subst hx;rw[lν hk];exact hg
 ·cases hk:Nat.beq f k
  ·rw[hk]at hx;exact h.both f g' x hx
  ·rw[hk]at hx;simp at hx
 ·cases hk:Nat.beq f k
  ·rw[hk]at hx;exact h.any f g' hx
  ·rw[hk]at hx;simp at hx
theorem ã {P:Program}{G:bP}{tab:Nat->Option Fn}(h:pj P G tab){k:Nat}{g:List D->List Ob->Option (D×List Ob)}(hg:EM P G k g):pj P G (fun f=>bif Nat.beq f k then some (.any g)else tab f):=by
 refine⟨fun f x hx=>?_,fun f g' hx=>?_,fun f g' x hx=>?_,fun f g' hx=>?_⟩
 ·cases hk:Nat.beq f k
  ·rw[hk]at hx;exact h.code f x hx
  ·rw[hk]at hx;simp at hx
 ·cases hk:Nat.beq f k
  ·rw[hk]at hx;exact h.prim f g' hx
  ·rw[hk]at hx;simp at hx
 ·cases hk:Nat.beq f k
  ·rw[hk]at hx;exact h.both f g' x hx
  ·rw[hk]at hx;simp at hx
 ·cases hk:Nat.beq f k
  ·rw[hk]at hx;exact h.any f g' hx
  ·rw[hk]at hx;simp only[cond_true,lβ,Fn.any.injEq]at hx;subst hx;rw[lν hk];exact hg
theorem Zp {P:Program}{G:bP}(hmix:P.follows .mixedOrders=true){tab:Nat->Option Fn}{tabH:Nat->Option Hn}(h:pj P G tab)(hs:∀f,same (tabH f) (tab f))(n:Nat):eK P G (KQ tabH n):=by
 rw[Vj hs n];exact rj hmix h n
end
section
def VD (x:Nat):LN->LN
 |[]=>[x]
 |y::r=>bif Nat.beq x y then y::r else bif Nat.blt x y then x::y::r else y::VD x r
def Ų (x:Nat):LN->LN
 |[]=>[]
 |y::r=>bif Nat.beq x y then r else y::Ų x r
def ë:LN->LN->LN
 |[],l=>l
 |x::r,l=>VD x (ë r l)
def eW (x:Nat):LN->Bool
 |[]=>false
 |y::r=>bif Nat.beq x y then true else eW x r
def ě:A->LN->LN
 | .t n,l=>VD n l
 |_,l=>l
def WA:List A->LN->LN
 |[],l=>l
 |a::r,l=>ě a (WA r l)
def aar (x:eT)(l:LN):LN:=
 WA x.as (match x.gd with
  |some (g,_)=>VD g (match x.dst with|some d=>Ų d l|none=>l)
  |none=>(match x.dst with|some d=>Ų d l|none=>l))
def NO:List eT->LN->LN
 |[],out=>out
 |x::r,out=>aar x (NO r out)
def Ny (t:Nat):List (Nat×eT)->Option eT
 |[]=>none
 |(s,x)::r=>bif Nat.beq s t then some x else Ny t r
def EH (d:List (Nat×eT)):Nat->Nat->Nat->Option (Nat×Nat)
 |0,_,_=>none
 |n+1,p,off=>match Ny p d with
  |none=>some (p,off)
  |some x=>match x.op,x.as with
   | .fa k,.t q::_=>EH d n q (off+k)
   | .mv,.t q::_=>EH d n q off
   | .nilck,.t q::_=>EH d n q off
   |_,_=>none
def abr (d:List (Nat×eT))(x:eT):List Gh:=
 match x.op,x.as with
 | .app z _,.t t::_=>match Ny t d with
  |none=>[.own t z]
  |some y=>match y.op,y.as with
   | .mv,.t s::_=>match Ny s d with
    |none=>[.own s z]
    |some _=>[]
   | .load _ _,.t p::_=>match EH d 20 p 0 with
    |some (q,off)=>[.ownc q off z]
    |none=>[]
   |_,_=>[]
 |_,_=>[]
def Wi:List (Nat×eT)->List eT->List Gh
 |_,[]=>[]
 |d,x::r=>abr d x++Wi (match x.dst with|some s=>(s,x)::d|none=>d) r
def rV:Co->List Gh
 | .reg _ ops _ _=>Wi [] ops
 | .seq a b=>rV a++rV b
 | .cond _ a b=>rV a++rV b
 | .block _ b=>rV b
 | .loop _ b=>rV b
 | .gh _ b=>rV b
 |_=>[]
def aa7:Gh->Gh->Bool
 | .own s z,.own t y=>Nat.beq s t&&Nat.beq z y
 | .ownc s o z,.ownc t p y=>Nat.beq s t&&(Nat.beq o p&&Nat.beq z y)
 |_,_=>false
def Vy (g:Gh):List Gh->Bool
 |[]=>false
 |h::r=>bif aa7 g h then true else Vy g r
def WB:Gh->Nat
 | .own s _=>s
 | .ownc s _ _=>s
 | .frz s=>s
 | .frzc s _=>s
 | .tog s _=>s
 | .pst s _=>s
 | .pfz s _=>s
 | .pkp _=>0
 | .keep _=>0
def Jj (h:LN):List Gh->List Gh->Co->Co
 |[],_,c=>c
 |g::r,seen,c=>bif eW (WB g) h&&!Vy g seen then .gh g (Jj h r (g::seen) c)else Jj h r seen c
def aaa:List (Nat×LN)->Nat->LN
 |[],_=>[]
 |(j,l)::r,i=>bif Nat.beq j i then l else aaa r i
def vA (rl:LN):Co->LN->List (Nat×LN)->Co×LN
 | .skip,out,_=>(.skip,out)
 | .ret,_,_=>(.ret,rl)
 | .exit i,_,ex=>(.exit i,aaa ex i)
 | .reg n ops ps _,out,_=>(.reg n ops ps out,NO ops out)
 | .seq a b,out,ex=>(.seq (vA rl a (vA rl b out ex).2 ex).1 (vA rl b out ex).1,(vA rl a (vA rl b out ex).2 ex).2)
 | .cond c t e,out,ex=>(.cond c (vA rl t out ex).1 (vA rl e out ex).1,ě c (ë (vA rl t out ex).2 (vA rl e out ex).2))
 | .block i b,out,ex=>(.block i (vA rl b out ((i,out)::ex)).1,(vA rl b out ((i,out)::ex)).2)
 | .loop _ b,_,ex=>(Jj (vA rl b [] ex).2 (rV b) [] (.loop (vA rl b [] ex).2 (vA rl b (vA rl b [] ex).2 ex).1),(vA rl b [] ex).2)
 | .gh g c,out,ex=>(.gh g (vA rl c out ex).1,(vA rl c out ex).2)
def x0 (h:LN)(c:Co):∀(gs seen:List Gh),er (Jj h gs seen c)=er c
 |[],_=>rfl
 |g::r,seen=>by
  simp only[Jj];cases eW (WB g) h&&!Vy g seen
  ·exact x0 h c r seen
  ·exact x0 h c r (g::seen)
def nK (rl:LN):∀(c:Co) (out:LN) (ex:List (Nat×LN)),er (vA rl c out ex).1=er c
 | .skip,_,_=>rfl
 | .ret,_,_=>rfl
 | .exit _,_,_=>rfl
 | .reg _ _ _ _,_,_=>rfl
 | .seq a b,out,ex=>by simp only[vA,er,nK rl a,nK rl b]
 | .cond c t e,out,ex=>by simp only[vA,er,nK rl t,nK rl e]
 | .block i b,out,ex=>by simp only[vA,er,nK rl b]
 | .loop _ b,out,ex=>by simp only[vA,x0,er,nK rl b]
 | .gh g c,out,ex=>by simp only[vA,er,nK rl c]
def aaz (g:Gh)(c:Co):Co:=
 match g with
 | .pst s _=>match c with
  | .reg n ops ps out=> .reg n ops ps (ë [s] out)
  |c=>c
 | .pfz s _=>match c with
  | .reg n ops ps out=> .reg n ops ps (ë [s] out)
  |c=>c
 |_=>c
def Zn (g:Gh)(c:Co):er (aaz g c)=er c:=by
 cases g<;>first|rfl|(cases c<;>rfl)
def ghAt:LN->Gh->Co->Co
 |[],g,c=> .gh g (aaz g c)
 |0::p,g,.seq a b=> .seq (ghAt p g a) b
 |1::p,g,.seq a b=> .seq a (ghAt p g b)
 |0::p,g,.cond c a b=> .cond c (ghAt p g a) b
 |1::p,g,.cond c a b=> .cond c a (ghAt p g b)
 |0::p,g,.block i b=> .block i (ghAt p g b)
 |0::p,g,.loop l b=> .loop l (ghAt p g b)
 |0::p,g,.gh h b=> .gh h (ghAt p g b)
 |_,_,c=>c
def Zm:∀(p:LN) (g:Gh) (c:Co),er (ghAt p g c)=er c:=by
 intro p g c;induction p,g,c using ghAt.induct<;>simp_all [ghAt,er,Zn]
def NB:List (LN×Gh)->Co->Co
 |[],c=>c
 |(p,g)::r,c=>ghAt p g (NB r c)
def G2:∀(l:List (LN×Gh)) (c:Co),er (NB l c)=er c
 |[],_=>rfl
 |(p,g)::r,c=>by simp only[NB,Zm,G2 r]
variable {raw:Nat->Bool}
def YA {P:Program}{G:bP}{N:Nat}{ops:List Oper}{draw:Bool}{x:Co}(h:Ky P G raw N ops draw=some x):er x=x:=by
 unfold Ky at h;split at h
 ·cases h
 ·cases draw
  ·simp at h;subst h;rfl
  ·cases he:iq ops 0
   ·simp_all
   ·rw[he]at h;simp at h;split at h
    ·simp at h;subst h;rfl
    ·cases h
def œ {P:Program}{G:bP}{N:Nat}:∀{c:Code} {x:Co},CP P G raw N c=some x->er x=x:=by
 intro c;induction c<;>intro x h<;>simp only[CP]at h
 all_goals try (first|(simp at h;subst h;rfl)|simp_all|exact YA h)
 case seq a b iha ihb=>
  split at h
  ·rename_i a' b' ha hb;simp at h;subst h;simp only[er,iha ha,ihb hb]
  ·cases h
 case cond c t e iht ihe=>
  split at h
  ·rename_i c' t' e' hc ht he;simp at h;subst h;simp only[er,iht ht,ihe he]
  ·cases h
 case block i b ih=>
  split at h
  ·rename_i b' hb;simp at h;subst h;simp only[er,ih hb]
  ·cases h
 case loop b ih=>
  split at h
  ·rename_i b' hb;simp at h;subst h;simp only[er,ih hb]
  ·cases h
def Ϯ:Rv->Nat
 | .t n=>n
 | .cell a _ _=>a
def ED:List Rv->LN
 |[]=>[]
 |r::rs=>VD (Ϯ r) (ED rs)
structure Ry where
 raw:Nat->Nat->Bool
 thaw:Nat->Bool
 ghs:Nat->List (LN×Gh)
 prim:Nat->Option (LD->Option (D×List Ob))
def gK (P:Program)(G:bP)(s:Ry)(f:Nat):Option Fx:=
 match P.funcs[f]? with
 |some fn=>match fn.body with
  |some c=>match CP P G (s.raw f) fn.ntmps c,PV P fn.results.toList with
   |some x,some rs=>some ⟨NB (s.ghs f) (vA (ED rs) x (ED rs) []).1,rs,!s.thaw f⟩
   |_,_=>none
  |none=>none
 |none=>none
def oN {P:Program}{G:bP}{s:Ry}{f:Nat}{x:Fx}(h:gK P G s f=some x):∃fn,P.funcs[f]?=some fn/\yh P G (s.raw f) fn x:=by
 unfold gK at h;split at h
 ·rename_i fn hf;refine⟨fn,hf,?_⟩;split at h
  ·rename_i c hc;split at h
   ·rename_i y rs hy hr;simp at h;subst h;refine⟨?_,hr⟩;rw[hc];simp only[hy,G2,nK,œ hy]
   ·cases h
  ·cases h
 ·cases h
def WJ (P:Program)(G:bP)(s:Ry)(f:Nat):Option Fn:=
 match s.prim f with
 |some g=>match gK P G s f with
  |some x=>some (.both g x)
  |none=>some (.prim g)
 |none=>match gK P G s f with
  |some x=>some (.code x)
  |none=>none
variable [Letters]
theorem â {P : Program} {G : bP} {s : Ry} (hn : P.funcs.toList.all (fun fn => !(fn.name == "runtime.NumGoroutine")) = true) (hp : ∀ f g, s.prim f = some g → fe P G f g) : pj P G (WJ P G s) := by
 have hc : ∀ f y, gK P G s f = some y → ∃ fn raw, P.funcs[f]? = some fn ∧ yh P G raw fn y ∧ (fn.name == "runtime.NumGoroutine") = false := by
  intro f y hy;obtain⟨fn,h1,h2⟩:=oN hy;grind
 refine⟨fun f x h=>?_,fun f g h=>?_,fun f g x h=>?_,fun f g h=>?_⟩
 all_goals
  unfold WJ at h;grind
end
structure Bx (α:Type) where
 un:α
def ju (l t:Tm):Tm:=Tm.rec (motive:=fun _=>Tm) t (fun s d _ ih=> .cons s d ih) l
def fh:Tm->LN
 | .nil=>[]
 | .cons s _ r=>s::fh r
def ua (s:Nat):LN->Option Nat
 |[]=>none
 |x::r=>bif Nat.beq x s then some 0 else match ua s r with
  |some j=>some (j+1)
  |none=>none
def ϵ (l:Tm):Tm:=Tm.rec (motive:=fun _=>Tm) .nil (fun _ _ r _=>r) l
def hdT (l:Tm):D:=Tm.rec (motive:=fun _=>D) .junk (fun _ d _ _=>d) l
def Nq:Nat->Bx (Tm->D)
 |0=>⟨fun l=>hdT l⟩
 |1=>⟨fun l=>hdT (ϵ l)⟩
 |2=>⟨fun l=>hdT (ϵ (ϵ l))⟩
 |n+3=>⟨fun l=>(Nq n).un (ϵ (ϵ (ϵ l)))⟩
def GS:∀(n:Nat) (l:Tm),(Nq n).un l=Nat.rec (motive:=fun _=>Tm->D) (fun l=>hdT l) (fun _ ih l=>ih (ϵ l)) n l
 |0,l=>rfl
 |1,l=>rfl
 |2,l=>rfl
 |n+3,l=>GS n _
def BV (s:Nat)(t:Tm):∀(l:Tm),get (ju l t) s=match ua s (fh l)with
  |some j=>(Nq j).un l
  |none=>get t s
 | .nil=>rfl
 | .cons x d r=>by
  show(bif Nat.beq x s then d else get (ju r t) s)=_;simp only[fh,ua];cases h:Nat.beq x s
  ·rw[BV s t r];cases ua s (fh r)with
   |none=>rfl
   |some j=>
    simp only[GS];rfl
  ·rfl
def It (σ:LN):A->Bx (Tm->Tm->D)
 | .t n=>match ua n σ with
  |some j=>⟨fun _ l=>(Nq j).un l⟩
  |none=>⟨fun t _=>nP t n⟩
 | .c x=>⟨fun _ _=> .p x⟩
 | .n z=>⟨fun _ _=> .sl .nil z []⟩
 | .f g=>⟨fun _ _=> .p (.fn g [])⟩
 | .g x=>⟨fun _ _=> .ip x 0⟩
def wu (l t:Tm)(a:A):(It (fh l) a).un t l=Zo (ju l t) a:=by
 cases a<;>try rfl
 rename_i n;show _=nP (ju l t) n;rw[f0,BV];simp only[It];cases ua n (fh l)with
 |none=>simp only[f0]
 |some j=>rfl
abbrev ó:=Bx (Tm->Tm->D)
def ug (as:List ó)(t l:Tm):List D:=List.rec (motive:=fun _=>List D) [] (fun a _ ih=>a.un t l::ih) as
def n_ (o:O)(kk:Nat)(as:List ó):Bx (aG->Nat->Tm->Tm->List Ob->KV->R):=
 match o,as with
 | .mv,[a]=>⟨fun _ _ t l hp k=>k (a.un t l) hp⟩
 | .pick,[c,a,b]=>⟨fun _ _ t l hp k=>Wj (c.un t l) (a.un t l) (b.un t l) fun v=>k v hp⟩
 | .bin op,[x,y]=>⟨fun _ _ t l hp k=>Yl op (x.un t l) (y.un t l) fun v=>k v hp⟩
 | .un .not,[x]=>⟨fun _ _ t l hp k=>Ϟ (x.un t l) fun v=>k v hp⟩
 | .ia esz,[x,i]=>⟨fun _ _ t l hp k=>iaG esz (x.un t l) (i.un t l) fun v=>k v hp⟩
 | .ix,[x,i]=>⟨fun _ _ t l hp k=>ixK (x.un t l) (i.un t l) fun v=>k v hp⟩
 | .fa off,[x]=>⟨fun _ _ t l hp k=>faG off (x.un t l) fun v=>k v hp⟩
 | .nilck,[x]=>⟨fun _ _ t l hp k=>Wf (x.un t l) fun v=>k v hp⟩
 | .ext i,[x]=>⟨fun _ _ t l hp k=>Zq i (x.un t l) fun v=>k v hp⟩
 | .len kd,[x]=>⟨fun _ _ t l hp k=>aap kd (x.un t l) hp fun v=>k v hp⟩
 | .call f raw,as=>⟨fun call _ t l hp k=>Nc call f raw (ug as t l) hp k⟩
 | .alloc zs,[]=>⟨fun _ base _ _ hp k=>CJ base kk zs hp k⟩
 | .box n,[d]=>⟨fun _ base t l hp k=>Ys base n kk (d.un t l) hp k⟩
 | .store n,[a,d]=>⟨fun call base t l hp k=>EF call base n kk (a.un t l) (d.un t l) hp k⟩
 | .slStr lo hi,x::xs=>⟨fun _ _ t l hp k=>EC lo hi (x.un t l) (ug xs t l) fun v=>k v hp⟩
 | .fld off n agg,[x]=>⟨fun _ _ t l hp k=>Vq off n agg (x.un t l) fun v=>k v hp⟩
 | .build zs ps,vs=>⟨fun _ _ t l hp k=>CO zs ps (ug vs t l) fun v=>k v hp⟩
 | .app esz bytes,[a,b]=>⟨fun call base t l hp k=>Yd call base esz bytes kk (a.un t l) (b.un t l) hp k⟩
 | .load 1 false,[x]=>⟨fun _ _ t l hp k=>VX (x.un t l) hp fun v=>k v hp⟩
 | .load n true,[x]=>⟨fun _ _ t l hp k=>ė n true (x.un t l) hp fun v=>k v hp⟩
 |o,as=>⟨fun call base t l hp k=>Qt call base o kk (ug as t l) hp k⟩
def LF (o:O)(kk:Nat)(as:List ó)(call:aG)(base:Nat)(t l:Tm)(hp:List Ob)(k:KV):(n_ o kk as).un call base t l hp k=Qt call base o kk (ug as t l) hp k:=by
 unfold n_;split<;>first
  |rfl
  |(
    show _=Qt call base (.load _ true) kk [_] hp k;unfold Qt;simp)
def qv (σ:LN):List A->List ó
 |[]=>[]
 |a::r=>It σ a::qv σ r
def sH (t l:Tm):∀as,ug (qv (fh l) as) t l=rM (ju l t) as
 |[]=>rfl
 |a::r=>by
  show(It (fh l) a).un t l::ug (qv (fh l) r) t l=Zo (ju l t) a::rM (ju l t) r;rw[wu,sH t l r]
def opX (σ:LN)(x:eT):Bx (aG->Nat->Tm->Tm->List Ob->KV->R):=
 match x.gd with
 |none=>n_ x.op x.k (qv σ x.as)
 |some (g,w)=>⟨fun call base t l hp k=>gG ((It σ (.t g)).un t l) w (fun k=>(n_ x.op x.k (qv σ x.as)).un call base t l hp k) hp k⟩
def Wh (x:eT)(call:aG)(base:Nat)(t l:Tm)(hp:List Ob)(k:KV):(opX (fh l) x).un call base t l hp k=i_ x.gd (ju l t) (fun k=>Qt call base x.op x.k (rM (ju l t) x.as) hp k) hp k:=by
 unfold opX i_;cases h:x.gd with
 |none=>simp only[LF,sH]
 |some p=>
  simp only[LF,sH,wu];rfl
def LJ (σ:LN):LN->Bx (Tm->Tm->Tm)
 |[]=>⟨fun _ _=> .nil⟩
 |s::r=>⟨fun t l=> .cons s ((It σ (.t s)).un t l) ((LJ σ r).un t l)⟩
def D8 (t l:Tm):∀out,(LJ (fh l) out).un t l=j4 out (ju l t)
 |[]=>rfl
 |s::r=>by
  show Tm.cons s ((It (fh l) (.t s)).un t l) ((LJ (fh l) r).un t l)=_;rw[wu,D8 t l r];rfl
def QR (out:LN):LN->List eT->Bx (aG->Nat->Tm->Tm->List Ob->K->R)
 |σ,[]=>⟨fun _ _ t l hp k=>k ((LJ σ out).un t l) hp⟩
 |σ,x::r=>match x.dst with
  |some d=>⟨fun call base t l hp k=>(opX σ x).un call base t l hp fun v hp=>(QR out (d::σ) r).un call base t (.cons d v l) hp k⟩
  |none=>⟨fun call base t l hp k=>(opX σ x).un call base t l hp fun _ hp=>(QR out σ r).un call base t l hp k⟩
def wv (out:LN)(call:aG)(base:Nat)(t:Tm)(k:K):∀(ops:List eT) (l:Tm) (hp:List Ob),(QR out (fh l) ops).un call base t l hp k=Dn call base ops (ju l t) hp fun tm hp=>k (j4 out tm) hp
 |[],l,hp=>by
  show k ((LJ (fh l) out).un t l) hp=k (j4 out (ju l t)) hp;rw[D8]
 |x::r,l,hp=>by
  have step:Dn call base (x::r) (ju l t) hp (fun tm hp=>k (j4 out tm) hp)=i_ x.gd (ju l t) (fun k=>Qt call base x.op x.k (rM (ju l t) x.as) hp k) hp fun v hp=>Dn call base r (put x.dst v (ju l t)) hp fun tm hp=>k (j4 out tm) hp:=rfl
  rw[step];unfold QR;cases hd:x.dst with
  |none=>
   simp only[Wh];congr 1;funext v hp;exact wv out call base t k r l hp
  |some d=>
   simp only[Wh];congr 1;funext v hp;exact wv out call base t k r (.cons d v l) hp
structure fM where
 rs:LN
 wl:List (Nat×Bool)
 grow:Bool
 lim:Nat
def oo (l:List (Nat×Bool)):LN:=List.rec (motive:=fun _=>LN) [] (fun p _ ih=>bif p.2 then p.1::ih else ih) l
def cP (f:fM):eE:=⟨f.rs,oo f.wl,f.grow,f.lim⟩
def zq (ids:LN)(hp:List Ob)(l:List (Nat×Ob)):List (Nat×Bool):=List.rec (motive:=fun _=>List (Nat×Bool)) [] (fun p _ ih=>(p.1,!(mY p.1 ids&&tE (aS hp p.1) p.2))::ih) l
def oq (ids:LN)(hp:List Ob):∀l,oo (zq ids hp l)=gW ids hp l
 |[]=>rfl
 |(i,o)::r=>by
  show(bif !(mY i ids&&tE (aS hp i) o)then i::oo (zq ids hp r)else oo (zq ids hp r))=_;rw[oq ids hp r];simp only[gW,show @Mv.eq mvNone=tE from rfl];cases mY i ids&&tE (aS hp i) o<;>rfl
def ZW (i:Nat)(l:List (Nat×Bool)):Bool:=List.rec (motive:=fun _=>Bool) false (fun p _ ih=>Bool.rec (motive:=fun _=>Bool) ih (Bool.rec (motive:=fun _=>Bool) ih true p.2) (Nat.beq p.1 i)) l
def NC (i:Nat):∀l,ZW i l=(oo l).contains i
 |[]=>rfl
 |(j,b)::r=>by
  show Bool.rec (motive:=fun _=>Bool) (ZW i r) (Bool.rec (motive:=fun _=>Bool) (ZW i r) true b) (Nat.beq j i)=(bif b then j::oo r else oo r).contains i;rw[NC i r];cases b with
  |false=>cases Nat.beq j i<;>rfl
  |true=>
   simp only[cond_true,List.contains_cons];have:(i==j)=Nat.beq j i:=by rw[mι,beq_iff_eq,Nat.beq_eq];omega
   rw[this];cases Nat.beq j i<;>rfl
def Rn (a:fM)(i:Nat):Bool:=Bool.rec (motive:=fun _=>Bool) (Bool.rec (motive:=fun _=>Bool) false (Nat.ble a.lim i) a.grow) true (ZW i a.wl)
def Ou (a:fM)(i:Nat):Rn a i=wr (cP a) i:=by
 unfold Rn wr cP;rw[NC];cases(oo a.wl).contains i<;>cases a.grow<;>simp
def NU (a:fM)(l:LN):Bool:=List.rec (motive:=fun _=>Bool) true (fun i _ ih=>Bool.rec (motive:=fun _=>Bool) ih false (Rn a i)) l
def HU (a:fM):∀l,NU a l=l.all (fun i=>!wr (cP a) i)
 |[]=>rfl
 |i::r=>by
  show Bool.rec (motive:=fun _=>Bool) (NU a r) false (Rn a i)=_;rw[HU a r,Ou];simp;cases wr (cP a) i<;>rfl
def yH (a:fM)(l:List (Nat×Bool)):Bool:=List.rec (motive:=fun _=>Bool) true (fun p _ ih=>Bool.rec (motive:=fun _=>Bool) ih (Bool.rec (motive:=fun _=>Bool) ih false p.2) (Rn a p.1)) l
def BS (a:fM):∀l,yH a l=(oo l).all (fun i=>!wr (cP a) i)
 |[]=>rfl
 |(i,b)::r=>by
  show Bool.rec (motive:=fun _=>Bool) (yH a r) (Bool.rec (motive:=fun _=>Bool) (yH a r) false b) (Rn a i)=(bif b then i::oo r else oo r).all _;rw[BS a r,Ou];cases b with
  |false=>cases wr (cP a) i<;>rfl
  |true=>
   simp;cases wr (cP a) i<;>rfl
def Ks (a b:fM):Bool:=
 Bool.rec (motive:=fun _=>Bool) false (Bool.rec (motive:=fun _=>Bool) false (Bool.rec (motive:=fun _=>Bool) false (Bool.rec (motive:=fun _=>Bool) false (Bool.rec (motive:=fun _=>Bool) true (Bool.rec (motive:=fun _=>Bool) true false b.grow) a.grow) (yH b a.wl)) (NU b a.rs)) (yH a b.wl)) (NU a b.rs)
def PL (a b:fM):Ks a b=kJ (cP a) (cP b):=by
 unfold Ks kJ;simp only[HU,BS];simp only[cP];cases b.rs.all _<;>cases(oo b.wl).all _<;>cases a.rs.all _<;>cases(oo a.wl).all _<;>cases a.grow<;>cases b.grow<;>rfl
def lu (fs:List fM):List (Nat×Nat)->Bool
 |[]=>true
 |(i,j)::r=>match fs[i]?,fs[j]? with
  |some a,some b=>Bool.rec (motive:=fun _=>Bool) false (lu fs r) (Ks a b)
  |_,_=>false
def mB (fs:List fM):∀ps,lu fs ps=fA (fs.map cP) ps
 |[]=>rfl
 |(i,j)::r=>by
  simp only[lu,fA,lσ,mB fs r];cases fs[i]? with
  |none=>rfl
  |some a=>
   cases fs[j]? with
   |none=>rfl
   |some b=>
    simp only[Option.map_some,PL];cases kJ (cP a) (cP b)<;>rfl
abbrev KL:=D->List Ob->fM->R
def KB (call:aG)(f:Nat)(raw:Bool)(vs:List D)(hp:List Ob)(k:KL):R:=
 forceNs (eQ hp bf (dX vs []) []) fun ids=>
  forceDs (fQ (ji ids) (Bool.rec (motive:=fun _=>List D) (vs.map norm) vs raw)) fun args=>forceHb (mS ids hp) fun hp'=>
   caseO (call f args hp') none fun ro=>Prod.rec (motive:=fun _=>R) (fun r out=>ql (Nat.ble ids.length out.length)
    (f7 (gO (back ids.length hp.length ids out.length) r) fun v=>forceHb (mZ (back ids.length hp.length ids out.length) out) fun out'=>
     forceHb (grow (aw hp (ids.zip out')) (out'.drop ids.length)) fun hp2=>k v hp2 ⟨ids,zq ids hp (ids.zip out'),!(out'.drop ids.length).isEmpty,hp.length⟩) none) ro
variable {k:KL} {q:KF}
def PX (call:aG)(f:Nat)(raw:Bool)(vs:List D)(hp:List Ob)(h:∀v hp f,k v hp f=q v hp (cP f)):KB call f raw vs hp k=Bj call f raw vs hp q:=by
 unfold KB Bj;simp only[h,cP,oq]
def KA (call:aG)(f:Nat)(raw:Bool)(vs:List D)(hp:List Ob)(k:KL):R:=
 Bi call f raw vs hp (KB call f raw vs hp k) fun v=>k v hp ⟨[],[],false,hp.length⟩
def PW (call:aG)(f:Nat)(raw:Bool)(vs:List D)(hp:List Ob)(h:∀v hp f,k v hp f=q v hp (cP f)):KA call f raw vs hp k=GK call f raw vs hp q:=by
 unfold KA GK;rw[PX _ _ _ _ _ h];simp only[h];rfl
def NA (call:aG)(base:Nat)(o:O)(kk:Nat)(vs:List D)(hp:List Ob)(k:KL):R:=
 bif !(ep o)||dw (aS hp (base+kk))then
  match oX call base o kk vs (bB o vs hp) ((bB o vs hp).map (aS hp)) hp.length with
  |none=>none
  |some (v,ups,new)=>k v (grow (aw hp ups) new) ⟨bif ep o then(base+kk)::bB o vs hp else bB o vs hp,zq (bB o vs hp) hp ups,!new.isEmpty,hp.length⟩
 else none
def Vt (call:aG)(base:Nat)(o:O)(kk:Nat)(vs:List D)(hp:List Ob)(h:∀v hp f,k v hp f=q v hp (cP f)):NA call base o kk vs hp k=Di call base o kk vs hp q:=by
 unfold NA Di;cases !(ep o)||dw (aS hp (base+kk))with
 |false=>rfl
 |true=>
  cases oX call base o kk vs (bB o vs hp) ((bB o vs hp).map (aS hp)) hp.length with
  |none=>rfl
  |some e=>
   simp only[h,cP,oq]
def QP (o:O)(kk:Nat)(as:List ó):Bx (aG->Nat->Tm->Tm->List Ob->KL->R):=
 match o with
 | .call f raw=>⟨fun call _ t l hp k=>KA call f raw (ug as t l) hp k⟩
 |o=>match lL o with
  |true=>⟨fun call base t l hp k=>(n_ o kk as).un call base t l hp fun v hp'=>k v hp' ⟨bB o (ug as t l) hp,[],false,hp.length⟩⟩
  |false=>⟨fun call base t l hp k=>NA call base o kk (ug as t l) hp k⟩
def LE {o:O}(hs:lL o=true)(kk:Nat)(as:List ó):QP o kk as=⟨fun call base t l hp k=>(n_ o kk as).un call base t l hp fun v hp'=>k v hp' ⟨bB o (ug as t l) hp,[],false,hp.length⟩⟩:=by
 cases o<;>first
  |rfl
  |(cases hs;done)
  |rfl
def K3 {call:aG}{base kk:Nat}{o:O}{vs:List D}{hp:List Ob}(hs:lL o=true):yo call base o kk vs hp q=Qt call base o kk vs hp fun v hp'=>q v hp' (đ o vs hp):=by
 cases o<;>first
  |rfl
  |(cases hs;done)
  |rfl
def QQ {o:O}(hs:lL o=false)(hc:∀f raw,o≠ .call f raw)(kk:Nat)(as:List ó):QP o kk as=⟨fun call base t l hp k=>NA call base o kk (ug as t l) hp k⟩:=by
 cases o<;>first
  |rfl
  |grind
  |rfl
  |(simp only[QP,hs])
def Qu {call:aG}{base kk:Nat}{o:O}{vs:List D}{hp:List Ob}(hs:lL o=false)(hc:∀f raw,o≠ .call f raw):yo call base o kk vs hp q=Di call base o kk vs hp q:=by
 cases o<;>first
  |rfl
  |grind
  |rfl
  |(simp only[yo,hs])
def NZ (o:O)(kk:Nat)(as:List ó)(call:aG)(base:Nat)(t l:Tm)(hp:List Ob)(h:∀v hp f,k v hp f=q v hp (cP f)):(QP o kk as).un call base t l hp k=yo call base o kk (ug as t l) hp q:=by
 by_cases hc:∃f raw,o= .call f raw
 ·obtain⟨f,raw,rfl⟩:=hc;exact PW _ _ _ _ _ h
 ·have hc:∀f raw,o≠ .call f raw:=fun f raw e=>hc ⟨f,raw,e⟩
  cases hs:lL o with
  |true=>
   rw[LE hs,K3 hs];rw[LF];congr 1;funext v hp';exact h _ _ _
  |false=>
   rw[QQ hs hc,Qu hs hc];exact Vt _ _ _ _ _ _ h
def Ð (σ:LN)(x:eT):Bx (aG->Nat->Tm->Tm->List Ob->KL->R):=
 match x.gd with
 |none=>QP x.op x.k (qv σ x.as)
 |some (g,w)=>⟨fun call base t l hp k=>Dl ((It σ (.t g)).un t l) w ((QP x.op x.k (qv σ x.as)).un call base t l hp k) (k (.tup []) hp ⟨[],[],false,0⟩)⟩
def N1 (x:eT)(call:aG)(base:Nat)(t l:Tm)(hp:List Ob)(hk:∀v hp f,k v hp f=q v hp (cP f)):(Ð (fh l) x).un call base t l hp k=h_ x.gd (ju l t) (fun k=>yo call base x.op x.k (rM (ju l t) x.as) hp k) hp q:=by
 unfold Ð h_;cases h:x.gd with
 |none=>simp only[NZ _ _ _ _ _ _ _ _ hk,sH]
 |some p=>
  simp only[NZ _ _ _ _ _ _ _ _ hk,sH,wu,hk];rfl
def Iu (out:LN):LN->List eT->Bx (aG->Nat->Tm->Tm->List Ob->List fM->(Tm->List Ob->List fM->R)->R)
 |σ,[]=>⟨fun _ _ t l hp fs k=>k ((LJ σ out).un t l) hp fs.reverse⟩
 |σ,x::r=>match x.dst with
  |some d=>⟨fun call base t l hp fs k=>(Ð σ x).un call base t l hp fun v hp f=>(Iu out (d::σ) r).un call base t (.cons d v l) hp (f::fs) k⟩
  |none=>⟨fun call base t l hp fs k=>(Ð σ x).un call base t l hp fun _ hp f=>(Iu out σ r).un call base t l hp (f::fs) k⟩
def yN (out:LN)(call:aG)(base:Nat)(t:Tm){k:Tm->List Ob->List fM->R}{q:Tm->List Ob->List eE->R}(hk:∀tm hp fs,k tm hp fs=q tm hp (fs.map cP)):∀(ops:List eT) (l:Tm) (hp:List Ob) (fs:List fM),(Iu out (fh l) ops).un call base t l hp fs k=rE call base ops (ju l t) hp (fs.map cP) fun tm hp fs=>q (j4 out tm) hp fs
 |[],l,hp,fs=>by
  show k ((LJ (fh l) out).un t l) hp fs.reverse=q (j4 out (ju l t)) hp (fs.map cP).reverse;rw[D8,hk,List.map_reverse]
 |x::r,l,hp,fs=>by
  have step:rE call base (x::r) (ju l t) hp (fs.map cP) (fun tm hp fs=>q (j4 out tm) hp fs)=h_ x.gd (ju l t) (fun k=>yo call base x.op x.k (rM (ju l t) x.as) hp k) hp fun v hp f=>rE call base r (put x.dst v (ju l t)) hp (f::fs.map cP) fun tm hp fs=>q (j4 out tm) hp fs:=rfl
  rw[step];unfold Iu;cases hd:x.dst with
  |none=>
   exact N1 _ _ _ _ _ _ fun v hp f=>yN out call base t hk r l hp (f::fs)
  |some d=>
   exact N1 _ _ _ _ _ _ fun v hp f=>yN out call base t hk r (.cons d v l) hp (f::fs)
def aaB (nal:Nat)(ops:List eT)(prs:Option (List (Nat×Nat)))(out:LN):Bx Sem:=
 match prs with
 |none=>match nal with
  |0=>⟨fun c _ _ tm hp kn _ _=>(QR out [] ops).un c hp.length tm .nil hp kn⟩
  |n+1=>⟨fun c _ _ tm hp kn _ _=>(QR out [] ops).un c hp.length tm .nil (rz (n+1) hp) kn⟩
 |some ps=>⟨fun c _ _ tm hp kn _ _=>(Iu out [] ops).un c hp.length tm .nil (rz nal hp) [] fun tm hp fs=>ql (lu fs ps) (kn tm hp) none⟩
def Ø (nal:Nat)(ops:List eT)(prs:Option (List (Nat×Nat)))(out:LN):(aaB nal ops prs out).un=aaC nal ops prs out:=by
 funext c n m tm hp kn ke kr
 cases prs with
 |none=>
  cases nal with
  |zero=>exact wv out c hp.length tm kn ops .nil hp
  |succ k=>exact wv out c hp.length tm kn ops .nil (rz (k+1) hp)
 |some ps=>exact yN out c hp.length tm (q:=fun tm hp fs=>ql (fA fs ps) (kn tm hp) none) (fun tm hp fs=>by rw[mB]) ops .nil (rz nal hp) []
def nG:Co->Bx Sem
 | .skip=>⟨Ě⟩
 | .reg nal ops prs out=>aaB nal ops prs out
 | .seq a b=>⟨fun c n m tm hp kn ke kr=>(nG a).un c n m tm hp (fun tm hp=>(nG b).un c n m tm hp kn ke kr) ke kr⟩
 | .cond x t e=>⟨fun c n m tm hp kn ke kr=>Ng (Zo tm x) ((nG t).un c n m tm hp kn ke kr) ((nG e).un c n m tm hp kn ke kr)⟩
 | .block id b=>⟨fun c n m tm hp kn ke kr=>(nG b).un c n m tm hp kn (fun i tm hp=>ql (Nat.beq i id) (kn tm hp) (ke i tm hp)) kr⟩
 | .loop live b=>⟨fun c n m tm hp _ ke kr=>BK m live (fun tm hp k=>(nG b).un c n m tm hp k ke kr) n tm hp⟩
 | .exit id=>⟨č id⟩
 | .ret=>⟨aaE⟩
 | .gh g b=>⟨fun c n m tm hp kn ke kr=>Θ m g tm hp fun tm hp=>(nG b).un c n m tm hp (pd m g kn) (fun i=>pd m g (ke i)) (pd m g kr)⟩
def jx:∀c:Co,(nG c).un=P6 c
 | .skip=>rfl
 | .reg nal ops prs out=>Ø nal ops prs out
 | .seq a b=>by
  show(fun(c:aG) (n m:Nat) (tm:Tm) (hp:List Ob) (kn:K) (ke:Nat->K) (kr:K)=>(nG a).un c n m tm hp (fun tm hp=>(nG b).un c n m tm hp kn ke kr) ke kr)=_;rw[jx a,jx b];rfl
 | .cond x t e=>by
  show(fun(c:aG) (n m:Nat) (tm:Tm) (hp:List Ob) (kn:K) (ke:Nat->K) (kr:K)=>Ng (Zo tm x) ((nG t).un c n m tm hp kn ke kr) ((nG e).un c n m tm hp kn ke kr))=_;rw[jx t,jx e];rfl
 | .block id b=>by
  show(fun(c:aG) (n m:Nat) (tm:Tm) (hp:List Ob) (kn:K) (ke:Nat->K) (kr:K)=>(nG b).un c n m tm hp kn (fun i tm hp=>ql (Nat.beq i id) (kn tm hp) (ke i tm hp)) kr)=_;rw[jx b];rfl
 | .loop live b=>by
  show(fun(c:aG) (n m:Nat) (tm:Tm) (hp:List Ob) (_:K) (ke:Nat->K) (kr:K)=>BK m live (fun tm hp k=>(nG b).un c n m tm hp k ke kr) n tm hp)=_;rw[jx b];rfl
 | .exit _=>rfl
 | .ret=>rfl
 | .gh g b=>by
  show(fun(c:aG) (n m:Nat) (tm:Tm) (hp:List Ob) (kn:K) (ke:Nat->K) (kr:K)=>Θ m g tm hp fun tm hp=>(nG b).un c n m tm hp (pd m g kn) (fun i=>pd m g (ke i)) (pd m g kr))=_;rw[jx b];rfl
def aah:Option Fn->Option Hn
 |some (.code x)=>some (.code (nG x.body).un x.res x.fz)
 |some (.prim g)=>some (.prim g)
 |some (.both g x)=>some (.both g (nG x.body).un x.res x.fz)
 |some (.any g)=>some (.any g)
 |none=>none
def Qp (o:Option Fn):same (aah o) o:=by
 cases o with
 |none=>trivial
 |some x=>cases x with
  |code x=>exact⟨(jx _).symm,rfl,rfl⟩
  |prim g=>rfl
  |both g x=>exact⟨rfl,(jx _).symm,rfl,rfl⟩
  |any g=>rfl
def ĝ (P:Program)(G:bP)(s:Ry)(f:Nat):Option Hn:=aah (WJ P G s f)
def Ri (P:Program)(G:bP)(s:Ry)(f:Nat):same (ĝ P G s f) (WJ P G s f):=Qp _
end
end Go.Ab
