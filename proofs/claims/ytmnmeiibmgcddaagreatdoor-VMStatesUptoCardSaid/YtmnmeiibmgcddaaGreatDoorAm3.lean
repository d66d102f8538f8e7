import Derived.Test.YtmnmeiibmgcddaaGreatDoorAm0
import Derived.Test.YtmnmeiibmgcddaaGreatDoorAm2
import Derived.Lib.ItoaNum
import Derived.KernelRfl
set_option linter.all false
namespace Go.Ab
open Go
noncomputable section
section
abbrev R:=Option (D×List Ob)
abbrev K:=Tm->List Ob->R
abbrev KV:=D->List Ob->R
noncomputable section
def mi (tm:Tm)(t:Nat):D:=
 Tm.rec (motive:=fun _=>D) .junk (fun s d _ ih=>Bool.rec (motive:=fun _=>D) ih d (Nat.beq s t)) tm
def fq (t:Nat):∀tm,mi tm t=get tm t
 | .nil=>rfl
 | .cons s d r=>by
  show Bool.rec (motive:=fun _=>D) (mi r t) d (Nat.beq s t)=bif Nat.beq s t then d else get r t
  rw[fq t r];cases Nat.beq s t<;>rfl
def To (tm:Tm)(a:A):D:=
 A.rec (motive:=fun _=>D) (fun n=>mi tm n) (fun x=> .p x) (fun z=> .sl .nil z []) (fun g=> .p (.fn g [])) (fun x=> .ip x 0) a
def Pq (tm:Tm)(a:A):To tm a=ev tm a:=by
 cases a
 ·exact fq _ tm
 all_goals rfl
def ge (d:D)(e:R)(k:Da->R):R:=
 D.rec (motive_1:=fun _=>R) (motive_2:=fun _=>PUnit.{1})
  (fun x=>k x) (fun _ _=>e) (fun _ _=>e) (fun _ _=>e) (fun _ _ _=>e) (fun _ _=>e) (fun _ _ _ _=>e) (fun _ _ _=>e) (fun _=>e) (fun _ _ _=>e) (fun _ _ _=>e) e ⟨⟩ (fun _ _ _ _=>⟨⟩) d
def oS (x:Da)(e:R)(k:IntKind->Int->R):R:=
 Da.rec (motive_1:=fun _=>R) (motive_2:=fun _=>PUnit.{1})
  (fun _=>e) (fun i n=>k i n) (fun _=>e) (fun _ _=>e) (fun _ _ _=>e) e (fun _ _=>e) (fun _ _ _ _=>e) e (fun _ _ _=>e) e (fun _ _ _=>e) e (fun _ _ _=>e) (fun _ _=>e) ⟨⟩ (fun _ _ _ _=>⟨⟩) x
def oR (x:Da)(e:R)(t f:R):R:=
 Da.rec (motive_1:=fun _=>R) (motive_2:=fun _=>PUnit.{1})
  (fun b=>Bool.rec (motive:=fun _=>R) f t b) (fun _ _=>e) (fun _=>e) (fun _ _=>e) (fun _ _ _=>e) e (fun _ _=>e) (fun _ _ _ _=>e) e (fun _ _ _=>e) e (fun _ _ _=>e) e (fun _ _ _=>e) (fun _ _=>e) ⟨⟩ (fun _ _ _ _=>⟨⟩) x
def mW (x:Da)(e:R)(k:LN->R):R:=
 Da.rec (motive_1:=fun _=>R) (motive_2:=fun _=>PUnit.{1})
  (fun _=>e) (fun _ _=>e) (fun s=>k s) (fun _ _=>e) (fun _ _ _=>e) e (fun _ _=>e) (fun _ _ _ _=>e) e (fun _ _ _=>e) e (fun _ _ _=>e) e (fun _ _ _=>e) (fun _ _=>e) ⟨⟩ (fun _ _ _ _=>⟨⟩) x
def gv (x:Da)(e:R)(k:Nat->LD->R):R:=
 Da.rec (motive_1:=fun _=>R) (motive_2:=fun _=>PUnit.{1})
  (fun _=>e) (fun _ _=>e) (fun _=>e) (fun _ _=>e) (fun z es _=>k z es) e (fun _ _=>e) (fun _ _ _ _=>e) e (fun _ _ _=>e) e (fun _ _ _=>e) e (fun z es _=>k z es) (fun _ _=>e) ⟨⟩ (fun _ _ _ _=>⟨⟩) x
def caseO {α:Type}(o:Option α)(e:R)(k:α->R):R:=Option.rec (motive:=fun _=>R) e (fun x=>k x) o
def nW (b:Bool)(t e:R):R:=Bool.rec (motive:=fun _=>R) e t b
def jN (b:Bool)(t e:R):nW b t e=bif b then t else e:=by cases b<;>rfl
def bK (b:Bool)(k:D->R):R:=Bool.rec (motive:=fun _=>R) (k (.p (.bool false))) (k (.p (.bool true))) b
def Vb (b:Bool)(k:D->R):bK b k=k (.p (.bool b)):=by cases b<;>rfl
def c4 (call:aD)(base:Nat)(o:O)(kk:Nat)(vs:List D)(hp:List Ob)(k:KV):R:=
 bif !(dJ o)||cT (aI hp (base+kk))then
  match nb call base o kk vs (bm o vs hp) ((bm o vs hp).map (aI hp)) hp.length with
  |none=>none
  |some (v,ups,new)=>k v (grow (au hp ups) new)
 else none
def kc (k:IntKind):Nat:=IntKind.rec (motive:=fun _=>Nat) 0 1 2 3 4 5 6 7 k
def PX:∀i j:IntKind,Nat.beq (kc i) (kc j)=decide (i=j):=by
 intro i j;cases i<;>cases j<;>rfl
def fK (n:Int)(p q:Nat->R):R:=Int.rec (motive:=fun _=>R) (fun m=>p m) (fun m=>q m) n
def ä (m n:Int)(k:Bool->R):R:=
 fK m (fun a=>fK n (fun b=>k (Nat.beq a b)) fun _=>k false) fun a=>fK n (fun _=>k false) fun b=>k (Nat.beq a b)
def Xc (m n:Int)(k:Bool->R):ä m n k=k (az m n):=by cases m<;>cases n<;>rfl
def Zk (m n:Int)(k:Bool->R):R:=
 fK m (fun a=>fK n (fun b=>k (Nat.blt a b)) fun _=>k false) fun a=>fK n (fun _=>k true) fun b=>k (Nat.blt b a)
def XR (m n:Int)(k:Bool->R):Zk m n k=k (aG m n):=by cases m<;>cases n<;>rfl
def lim (i:IntKind):Nat:=IntKind.rec (motive:=fun _=>Nat) 0 0 2147483648 9223372036854775808 256 0 4294967296 18446744073709551616 i
def Qg (i:IntKind)(m:Nat)(k:D->R):R:=nW (Nat.blt m (lim i)) (k (.p (.int i (.ofNat m)))) (k (.p (.int i (ag i (.ofNat m)))))
def Hj (i:IntKind)(m:Nat)(h:Nat.blt m (lim i)=true):ag i (.ofNat m)= .ofNat m:=by
 cases i<;>simp only[lim]at h;case i8=>simp_all
 case i16=>simp_all
 case u16=>simp_all
 all_goals simp only[ag,h,cond_true]
def Uj (i:IntKind)(m:Nat)(k:D->R):Qg i m k=k (.p (.int i (ag i (.ofNat m)))):=by
 unfold Qg;cases h:Nat.blt m (lim i)
 ·rfl
 ·rw[Hj i m h];rfl
def nh (o:Option Da)(k:D->R):R:=caseO o none fun x=>k (.p x)
def Zl (b:Bool)(k:D->R):R:=Bool.rec (motive:=fun _=>R) (k (.p (.bool true))) (k (.p (.bool false))) b
def Qh (b:Bool)(k:D->R):Zl b k=k (.p (.bool (!b))):=by cases b<;>rfl
def Ws (op:BinOp)(i:IntKind)(m n:Int)(e:R)(k:D->R):R:=
 BinOp.rec (motive:=fun _=>R)
  (fK m (fun a=>fK n (fun b=>Qg i (Nat.add a b) k) fun _=>e) fun _=>e)
  (fK m (fun a=>fK n (fun b=>nW (Nat.ble b a) (Qg i (Nat.sub a b) k) e) fun _=>e) fun _=>e)
  (fK m (fun a=>fK n (fun b=>Qg i (Nat.mul a b) k) fun _=>e) fun _=>e)
  e e e e e e e e
  (ä m n fun b=>bK b k) (ä m n fun b=>Zl b k) (Zk m n fun b=>bK b k) (Zk n m fun b=>Zl b k) (Zk n m fun b=>bK b k) (Zk m n fun b=>Zl b k) op
def Se (op:BinOp)(i:IntKind)(m n:Int)(k:D->R):Ws op i m n (nh (bin op (.p (.int i m)) (.p (.int i n))) k) k=nh (bin op (.p (.int i m)) (.p (.int i n))) k:=by
 cases op<;>simp only[Ws,Xc,XR,Vb,Qh,Uj];case add=>
  cases m<;>cases n<;>try rfl
  simp[fK,bin,fZ,iS,nh,caseO]
 case sub=>
  cases m<;>cases n<;>try rfl
  rename_i a b;simp only[fK,jN];cases h:Nat.ble b a
  ·rfl
  ·have hle:=Nat.le_of_ble_eq_true h;simp only[bin,fZ,iS,nh,caseO,if_true];grind
 case mul=>
  cases m<;>cases n<;>try rfl
  simp[fK,bin,fZ,iS,nh,caseO]
 all_goals simp[bin,fZ,iS,nh,caseO,aL]
def FZ (a:LN):LN->Bool:=
 List.rec (motive:=fun _=>LN->Bool) (fun b=>List.rec (motive:=fun _=>Bool) true (fun _ _ _=>false) b)
  (fun x _ ih b=>List.rec (motive:=fun _=>Bool) false (fun y r _=>Bool.rec (motive:=fun _=>Bool) false (ih r) (Nat.beq x y)) b) a
def zi:∀a b,FZ a b=cg a b
 |[],[]=>rfl
 |[],_::_=>rfl
 |_::_,[]=>rfl
 |x::a,y::b=>by
  show Bool.rec (motive:=fun _=>Bool) false (FZ a b) (Nat.beq x y)=bif Nat.beq x y then cg a b else false
  rw[zi a b];cases Nat.beq x y<;>rfl
def Yd (op:BinOp)(a b:LN)(e:R)(k:D->R):R:=
 BinOp.rec (motive:=fun _=>R) e e e e e e e e e e e (bK (FZ a b) k) (Zl (FZ a b) k) e e e e op
def UD (op:BinOp)(a b:LN)(k:D->R):Yd op a b (nh (bin op (.p (.str a)) (.p (.str b))) k) k=nh (bin op (.p (.str a)) (.p (.str b))) k:=by
 cases op<;>simp only[Yd,Vb,Qh,zi]<;>simp[bin,nL,nh,caseO]
def Sb (op:BinOp)(x y:D)(k:D->R):R:=
 ge x none fun a=>Da.rec (motive_1:=fun _=>R) (motive_2:=fun _=>PUnit.{1})
  (fun _=>none) (fun i m=>ge y none fun b=>oS b (nh (bin op x y) k) fun j n=>nW (Nat.beq (kc i) (kc j)) (Ws op i m n (nh (bin op x y) k) k) (nh (bin op x y) k))
  (fun s=>ge y none fun b=>mW b none fun t=>Yd op s t (nh (bin op x y) k) k)
  (fun _ _=>none) (fun _ _ _=>none) none (fun _ _=>none) (fun _ _ _ _=>none) none (fun _ _ _=>none) none (fun _ _ _=>none) none (fun _ _ _=>none) (fun _ _=>nh (bin op x y) k) ⟨⟩ (fun _ _ _ _=>⟨⟩) a
def Ka (op:BinOp)(a:Da)(y:D)(h:yq a=none)(hs:∀s,a≠ .str s):bin op (.p a) y=none:=by
 cases y<;>try (cases a<;>rfl)
 cases a<;>simp only[yq,reduceCtorEq]at h<;>first
  |rfl
  |simp_all
def Sc (op:BinOp)(x y:D)(k:D->R):Sb op x y k=nh (bin op x y) k:=by
 cases x<;>try rfl
 rename_i a;cases a;case int i m=>
  cases y<;>try rfl
  rename_i b;cases b<;>try rfl
  rename_i j n;show nW (Nat.beq (kc i) (kc j)) _ _=_;rw[PX,jN];by_cases h:i=j
  ·subst h;simp;exact Se op i m n k
  ·simp[h]
 case str s=>
  cases y<;>try rfl
  rename_i b;cases b<;>try rfl
  exact UD op s _ k
 case sym i s=>rfl
 all_goals (rw[Ka op _ y rfl (by simp)];rfl)
def Qp (c a b:D)(k:D->R):R:=ge c none fun x=>oR x none (k a) (k b)
def XV (d:D)(k:D->R):R:=ge d none fun x=>oR x none (k (.p (.bool false))) (k (.p (.bool true)))
def Gu {α:Type}(l:List α)(i:Nat)(k:α->R):R:=
 List.rec (motive:=fun _=>Nat->R) (fun _=>none) (fun x _ ih i=>Nat.rec (motive:=fun _=>R) (k x) (fun i _=>ih i) i) l i
def pK {α:Type}(k:α->R):∀(l:List α) (i:Nat),Gu l i k=caseO l[i]? none k
 |[],i=>by rfl
 |x::r,0=>rfl
 |x::r,i+1=>by
  show Gu r i k=_;rw[pK k r i];simp
def tl {α:Type}(l:List α):List α:=List.rec (motive:=fun _=>List α) [] (fun _ t _=>t) l
def ZG {α:Type}(l:List α):List α:=tl (tl (tl (tl l)))
def UJ {α:Type}(l:List α):List α:=ZG (ZG (ZG (ZG l)))
def If {α:Type}(l:List α)(j:Nat):List α:=Nat.rec (motive:=fun _=>List α) l (fun _ ih=>UJ ih) j
variable {α:Type}
def QP (l:List α):tl l=l.drop 1:=by cases l<;>rfl
def UK (l:List α):UJ l=l.drop 16:=by
 simp only[UJ,ZG,QP,mχ]
def ul {α:Type}(l:List α):∀j,If l j=l.drop (16*j)
 |0=>rfl
 |j+1=>by
  show UJ (If l j)=_;rw[UK,ul l j,mχ];congr 1
def TZ {α:Type}(l:List α)(i:Nat)(k:α->R):R:=Gu (If l (Nat.div i 16)) (Nat.mod i 16) k
def It (l:List α)(i:Nat)(k:α->R):TZ l i k=caseO l[i]? none k:=by
 unfold TZ;rw[pK,ul,List.getElem?_drop];congr 2;exact Nat.div_add_mod i 16
def Ď (es:LD)(i:Int)(k:Da->R):R:=fK i (fun j=>TZ es j k) fun _=>none
def Wo (es:LD)(i:Int)(k:Da->R):Ď es i k=caseO (bU es i) none k:=by
 cases i with
 |ofNat j=>exact It es j k
 |negSucc j=>rfl
def ò (esz:Nat)(x i:D)(e:R)(k:D->R):R:=
 ge x e fun x=>gv x none fun z es=>ge i none fun i=>oS i none fun _ i=>nW (Nat.beq z esz) (Ď es i fun y=>k (.ip y 0)) none
def Z5 (x i:D)(k:D->R):R:=
 ge x none fun x=>mW x none fun s=>ge i none fun i=>oS i none fun _ i=>fK i (fun j=>TZ s j fun b=>k (.p (.int .u8 (Int.ofNat b)))) fun _=>none
def ē (off:Nat)(d:D)(e:R)(k:D->R):R:=
 D.rec (motive_1:=fun _=>R) (motive_2:=fun _=>PUnit.{1})
  (fun _=>e) (fun _ _=>none) (fun _ _=>none) (fun id o=>k (.box id (o+off))) (fun id i o=>k (.el id i (o+off))) (fun x o=>k (.ip x (o+off)))
  (fun _ _ _ _=>none) (fun _ _ _=>none) (fun _=>none) (fun _ _ _=>none) (fun _ _ _=>none) none ⟨⟩ (fun _ _ _ _=>⟨⟩) d
def Ql (d:D)(e:R)(k:D->R):R:=
 D.rec (motive_1:=fun _=>R) (motive_2:=fun _=>PUnit.{1})
  (fun _=>e) (fun _ _=>none) (fun _ _=>none) (fun _ _=>k d) (fun _ _ _=>k d) (fun _ _=>k d)
  (fun _ _ _ _=>none) (fun _ _ _=>none) (fun _=>none) (fun _ _ _=>k d) (fun _ _ _=>k d) none ⟨⟩ (fun _ _ _ _=>⟨⟩) d
def jw (o:Ob)(e:R)(k:List D->R):R:=
 Ob.rec (motive:=fun _=>R) (fun cs=>k cs) (fun _=>e) (fun _=>e) (fun _ _=>e) (fun _ _=>e) e e (fun _ _=>e) (fun _=>e) (fun _ _=>e) o
def zQ (d:D)(hp:List Ob)(e:R)(k:D->R):R:=
 D.rec (motive_1:=fun _=>R) (motive_2:=fun _=>PUnit.{1})
  (fun _=>e) (fun _ _=>none) (fun _ _=>none)
  (fun id off=>Gu hp id fun o=>jw o none fun cs=>Gu cs off k)
  (fun _ _ _=>e)
  (fun x off=>Gu (cells x) off fun x=>k (.p x))
  (fun _ _ _ _=>none) (fun _ _ _=>none) (fun _=>none) (fun _ _ _=>none) (fun _ _ _=>none) none ⟨⟩ (fun _ _ _ _=>⟨⟩) d
def Tq (i:Nat)(d:D)(k:D->R):R:=
 D.rec (motive_1:=fun _=>R) (motive_2:=fun _=>PUnit.{1})
  (fun _=>none) (fun _ _=>none) (fun ds _=>Gu ds i k) (fun _ _=>none) (fun _ _ _=>none) (fun _ _=>none)
  (fun _ _ _ _=>none) (fun _ _ _=>none) (fun _=>none) (fun _ _ _=>none) (fun _ _ _=>none) none ⟨⟩ (fun _ _ _ _=>⟨⟩) d
def Dk {α:Type}(l:List α):Nat:=List.rec (motive:=fun _=>Nat) 0 (fun _ _ ih=>Nat.succ ih) l
def jB {α:Type}:∀l:List α,Dk l=l.length
 |[]=>rfl
 |_::r=>congrArg Nat.succ (jB r)
def q8 (d:D)(k:Nat->R):R:=
 D.rec (motive_1:=fun _=>R) (motive_2:=fun _=>PUnit.{1})
  (fun x=>gv x none fun _ es=>k (Dk es)) (fun _ _=>none) (fun _ _=>none) (fun _ _=>none) (fun _ _ _=>none) (fun _ _=>none) (fun _ _ len _=>k len) (fun _ _ es=>k (Dk es)) (fun _=>none) (fun _ _ _=>none) (fun _ _ _=>none) none ⟨⟩ (fun _ _ _ _=>⟨⟩) d
def Lz (d:D)(k:Nat->R):q8 d k=caseO (pW d) none k:=by
 cases d<;>try rfl
 ·rename_i x;cases x<;>try rfl
  ·simp only[q8,gv,jB,pW,caseO]
  ·simp only[q8,gv,jB,pW,caseO]
 ·simp only[q8,jB,pW,caseO]
def Ua (n:Nat)(k:D->R):R:=Nat.rec (motive:=fun _=>R) (k (.p (.int .i64 (.ofNat 0)))) (fun m _=>k (.p (.int .i64 (.ofNat (Nat.succ m))))) n
def IA (n:Nat)(k:D->R):Ua n k=k (.p (xR n)):=by cases n<;>rfl
def XK (kd:Nat)(d:D)(e:R)(k:D->R):R:=
 Nat.rec (motive:=fun _=>R) (ge d none fun x=>mW x none fun s=>Ua (Dk s) k)
  (fun j _=>Nat.rec (motive:=fun _=>R) (q8 d fun n=>Ua n k) (fun _ _=>e) j) kd
def DW (cs:List α)(off:Nat):sub cs off 1=cs[off]?.map fun x=>[x]:=by
 unfold sub;cases h:Nat.ble (off+1) cs.length
 ·have:cs.length<=off:=by
   rcases mβ off cs.length with h1|h1
   ·rw[Nat.ble_eq.mpr h1]at h;cases h
   ·exact h1
  simp_all
 ·have h1:off<cs.length:=Nat.ble_eq.mp h;simp[lε h1,List.take_one,List.head?_drop]
def hT (o:Option eV)(k:D->R):R:=caseO o none fun e=>k e.1
def kh:O->Bool
 | .mv=>true
 | .pick=>true
 | .build _ _=>true
 | .load _ _=>true
 | .nilck=>true
 | .bin _=>true
 | .binB _=>true
 | .binN _ _=>true
 | .binS _ _=>true
 | .un _=>true
 | .conv _=>true
 | .mkif _=>true
 | .mkfn _=>true
 | .slStr _ _=>true
 | .fa _=>true
 | .fld _ _ _=>true
 | .ia _=>true
 | .iaa _ _=>true
 | .ix=>true
 | .lkp _ _ _=>true
 | .ext _=>true
 | .len _=>true
 | .cap=>true
 | .min2=>true
 | .max2=>true
 | .same=>true
 | .assertT _ _ _=>true
 | .b2s=>true
 | .s2b=>true
 |_=>false
def D4 (o:Option eV):Prop:=∀e,o=some e->e.2=([],[])
def vl:D4 none:=by intro e h;cases h
def ym (d:D):D4 (val d):=by intro e h;cases h;rfl
def GP (o:Option Da):D4 (jg o):=by cases o<;>(intro e h;cases h;try rfl)
def GO (kt:TypeDesc)(z:D)(ok:Bool)(ks:LD)(ws:List D)(k:D):D4 (K4 kt z ok ks ws k):=by
 unfold K4;repeat' split
 all_goals first
  |exact vl
  |exact ym _
def rL {call:aD}{base kk:Nat}{o:O}{vs:List D}{ids:LN}{obs:List Ob}{len:Nat}(h:kh o=true):D4 (nb call base o kk vs ids obs len):=by
 cases o<;>simp only[kh,Bool.false_eq_true]at h<;>
  simp only[nb,Yk,xu,nF,fJ,nG,yR,NQ,NR,xq,ZT,HM,HO,B7,B6,kU,We,B2,HN,B3,RZ,tW,Fy,J4,NW,B5,B4,lP,J1,NY]<;>
  (repeat' (first|exact vl|exact ym _|exact GP _|exact GO _ _ _ _ _ _|split|(simp only[cond_eq_ite])))
def rK {o:O}(h:kh o=true):dJ o=false:=by
 cases o<;>simp_all [kh,dJ]
section eqs
variable {call:aD} {base kk:Nat} {hp:List Ob} {k:KV}
def cC {o:O}{vs:List D}(h:kh o=true):c4 call base o kk vs hp k=hT (nb call base o kk vs (bm o vs hp) ((bm o vs hp).map (aI hp)) hp.length) fun v=>k v hp:=by
 have hq:=rL (call:=call) (base:=base) (kk:=kk) (vs:=vs) (ids:=bm o vs hp) (obs:=(bm o vs hp).map (aI hp)) (len:=hp.length) h;simp only[c4,rK h,cond_true];cases ha:nb call base o kk vs (bm o vs hp) ((bm o vs hp).map (aI hp)) hp.length with
 |none=>rfl
 |some e=>
  obtain⟨v,ups,new⟩:=e;have:=hq _ ha;obtain⟨rfl,rfl⟩:=this;rfl
def Kt {o:Option Da}{k:D->R}:hT (jg o) k=nh o k:=by cases o<;>rfl
def Sf (op:BinOp)(x y:D):c4 call base (.bin op) kk [x,y] hp k=Sb op x y fun v=>k v hp:=by
 rw[Sc,cC rfl];exact Kt
def Qs (c a b:D):c4 call base .pick kk [c,a,b] hp k=Qp c a b fun v=>k v hp:=by
 cases c<;>try rfl
 rename_i x;cases x<;>try rfl
 rename_i b;cases b<;>rfl
def Uk (x:D):c4 call base (.un .not) kk [x] hp k=XV x fun v=>k v hp:=by
 cases x<;>try rfl
 rename_i x;cases x<;>try rfl
 rename_i b;cases b<;>rfl
def Xx (esz:Nat)(x i:D):c4 call base (.ia esz) kk [x,i] hp k=ò esz x i (hT (HN esz [x,i]) fun v=>k v hp) fun v=>k v hp:=by
 rw[cC rfl];show hT (HN esz [x,i]) (fun v=>k v hp)=_;cases x<;>try rfl
 rename_i x;cases x<;>try rfl
 all_goals
  rename_i z es;cases i<;>try rfl
  rename_i i;cases i<;>try rfl
  rename_i q i;simp only[HN,ò,ge,gv,oS,Wo];cases Nat.beq z esz
  ·rfl
  ·cases bU es i<;>rfl
def XG (x i:D):c4 call base .ix kk [x,i] hp k=Z5 x i fun v=>k v hp:=by
 rw[cC rfl];show hT (RZ [x,i]) (fun v=>k v hp)=_;cases x<;>try rfl
 rename_i x;cases x<;>try rfl
 rename_i s;cases i<;>try rfl
 rename_i i;cases i<;>try rfl
 rename_i q i;simp only[RZ,Z5,ge,mW,oS];cases i with
 |negSucc j=>rfl
 |ofNat j=>
  simp only[fK,It];have h:(bif aL 0 (Int.ofNat j)then s[(Int.ofNat j).toNat]? else none)=s[j]?:=rfl;rw[h];cases s[j]?<;>rfl
def Xf (off:Nat)(x:D):c4 call base (.fa off) kk [x] hp k=ē off x (hT (We off [x]) fun v=>k v hp) fun v=>k v hp:=by
 rw[cC rfl];cases x<;>rfl
def K7 (x:D):c4 call base .nilck kk [x] hp k=Ql x (hT (nG [x]) fun v=>k v hp) fun v=>k v hp:=by
 rw[cC rfl];cases x<;>rfl
def Tr (i:Nat)(x:D):c4 call base (.ext i) kk [x] hp k=Tq i x fun v=>k v hp:=by
 rw[cC rfl];cases x<;>try rfl
 rename_i ds;show hT (Fy i [.tup ds]) (fun v=>k v hp)=_;simp only[Fy,Tq,pK];cases ds[i]?<;>rfl
def Ub (kd:Nat)(x:D):c4 call base (.len kd) kk [x] hp k=XK kd x (hT (J4 kd [x] (bm (.len kd) [x] hp) ((bm (.len kd) [x] hp).map (aI hp))) fun v=>k v hp) fun v=>k v hp:=by
 rw[cC rfl];match kd with
 |0=>
  cases x<;>try rfl
  rename_i x;cases x<;>try rfl
  simp only[XK,IA,jB];rfl
 |1=>
  show hT (match pW x with|some n=>val (.p (xR n))|none=>none) _=q8 x fun n=>Ua n fun v=>k v hp
  simp only[Lz,IA];cases pW x<;>rfl
 |n+2=>rfl
def K5 (x:D):c4 call base (.load 1 false) kk [x] hp k=zQ x hp (hT (fJ 1 false [x] ((dids x).map (aI hp))) fun v=>k v hp) fun v=>k v hp:=by
 rw[cC rfl];cases x<;>try rfl
 ·rename_i id off;show hT (fJ 1 false [.box id off] [aI hp id]) (fun v=>k v hp)=_;simp only[zQ,pK,fJ,aI,mν];cases hp[id]? with
  |none=>rfl
  |some o=>
   cases o<;>try rfl
   rename_i cs;simp only[Option.getD_some,DW,caseO,jw];cases cs[off]?<;>rfl
 ·rename_i x off;show hT (fJ 1 false [.ip x off] []) (fun v=>k v hp)=_;simp only[zQ,pK,fJ,DW];cases(cells x)[off]?<;>rfl
end eqs
end
end
section
def forceN (m:Nat)(k:Nat->R):R:=Nat.rec (motive:=fun _=>R) (k 0) (fun m _=>k (Nat.succ m)) m
def iF (m:Nat)(k:Nat->R):forceN m k=k m:=by cases m<;>rfl
def zp (n:Int)(k:Int->R):R:=fK n (fun m=>forceN m fun m=>k (.ofNat m)) fun m=>forceN m fun m=>k (.negSucc m)
def xO (n:Int)(k:Int->R):zp n k=k n:=by cases n<;>simp only[zp,fK,iF]
def forceNs (l:LN)(k:LN->R):R:=
 List.rec (motive:=fun _=>(LN->R)->R) (fun k=>k []) (fun x _ ih k=>forceN x fun x=>ih fun r=>k (x::r)) l k
def iY:∀(l:LN) (k:LN->R),forceNs l k=k l
 |[],k=>rfl
 |x::r,k=>by
  show forceN x (fun x=>forceNs r fun r=>k (x::r))=_;rw[iF,iY r]
def ŧ (x:Da)(k:Da->R):R:=
 Da.rec (motive_1:=fun _=>R) (motive_2:=fun _=>PUnit.{1})
  (fun b=>Bool.rec (motive:=fun _=>R) (k (.bool false)) (k (.bool true)) b) (fun i n=>zp n fun n=>k (.int i n)) (fun s=>k (.str s)) (fun cs _=>k (.agg cs)) (fun z es _=>k (.slice z es)) (k .nilptr) (fun x _=>k (.ptr x)) (fun ks vs _ _=>k (.map ks vs)) (k .nilmap) (fun f cs _=>k (.fn f cs)) (k .nilfn) (fun t x _=>k (.iface t x)) (k .nilif) (fun z es _=>k (.sliceE z es)) (fun i s=>k (.sym i s)) ⟨⟩ (fun _ _ _ _=>⟨⟩) x
def nT (x:Da)(k:Da->R):ŧ x k=k x:=by
 cases x<;>try rfl
 ·rename_i b;cases b<;>rfl
 ·simp only[ŧ,xO]
def fB (d:D)(k:D->R):R:=
 D.rec (motive_1:=fun _=>R) (motive_2:=fun _=>PUnit.{1})
  (fun x=>ŧ x fun x=>k (.p x)) (fun cs _=>k (.agg cs)) (fun ds _=>k (.tup ds)) (fun id off=>forceN id fun id=>forceN off fun off=>k (.box id off)) (fun id i off=>forceN id fun id=>forceN i fun i=>forceN off fun off=>k (.el id i off)) (fun x off=>k (.ip x off))
  (fun id lo len z=>forceN id fun id=>forceN lo fun lo=>forceN len fun len=>k (.arr id lo len z)) (fun g z es=>k (.sl g z es)) (fun id=>forceN id fun id=>k (.map id)) (fun f cs _=>k (.fn f cs)) (fun t d _=>k (.iface t d)) (k .junk) ⟨⟩ (fun _ _ _ _=>⟨⟩) d
def j2 (d:D)(k:D->R):fB d k=k d:=by
 cases d<;>simp only[fB,iF,nT]
def forceTm (tm:Tm)(k:Tm->R):R:=
 Tm.rec (motive:=fun _=>(Tm->R)->R) (fun k=>k .nil) (fun s d _ ih k=>fB d fun d=>ih fun r=>k (.cons s d r)) tm k
def nU:∀(tm:Tm) (k:Tm->R),forceTm tm k=k tm
 | .nil,k=>rfl
 | .cons s d r,k=>by
  show fB d (fun d=>forceTm r fun r=>k (.cons s d r))=_;rw[j2,nU r]
def forceDs (ds:List D)(k:List D->R):R:=
 List.rec (motive:=fun _=>(List D->R)->R) (fun k=>k []) (fun d _ ih k=>fB d fun d=>ih fun r=>k (d::r)) ds k
def fC:∀(ds:List D) (k:List D->R),forceDs ds k=k ds
 |[],k=>rfl
 |d::r,k=>by
  show fB d (fun d=>forceDs r fun r=>k (d::r))=_;rw[j2,fC r]
def pg (ds:LD)(k:LD->R):R:=
 List.rec (motive:=fun _=>(LD->R)->R) (fun k=>k []) (fun d _ ih k=>ŧ d fun d=>ih fun r=>k (d::r)) ds k
def kZ:∀(ds:LD) (k:LD->R),pg ds k=k ds
 |[],k=>rfl
 |d::r,k=>by
  show ŧ d (fun d=>pg r fun r=>k (d::r))=_;rw[nT,kZ r]
def sK (o:Ob)(k:Ob->R):R:=
 Ob.rec (motive:=fun _=>R) (fun cs=>forceDs cs fun cs=>k (.box cs)) (fun es=>pg es fun es=>k (.arr es)) (fun es=>k (.fz es)) (fun ks vs=>k (.map ks vs)) (fun ks vs=>k (.fzm ks vs)) (k .dead) (k .unborn) (fun ks vs=>forceDs vs fun vs=>k (.mapd ks vs)) (fun es=>k (.byt es)) (fun b es=>k (.may b es)) o
def F4 (o:Ob)(k:Ob->R):sK o k=k o:=by
 cases o<;>simp only[sK,fC,kZ]
def Ũ (hp:List Ob)(k:List Ob->R):R:=
 List.rec (motive:=fun _=>(List Ob->R)->R) (fun k=>k []) (fun o _ ih k=>sK o fun o=>ih fun r=>k (o::r)) hp k
def iX:∀(hp:List Ob) (k:List Ob->R),Ũ hp k=k hp
 |[],k=>rfl
 |o::r,k=>by
  show sK o (fun o=>Ũ r fun r=>k (o::r))=_;rw[F4,iX r]
def sJ (o:Ob)(k:Ob->R):R:=
 Ob.rec (motive:=fun _=>R) (fun cs=>forceDs cs fun cs=>k (.box cs)) (fun es=>k (.arr es)) (fun es=>k (.fz es)) (fun ks vs=>k (.map ks vs)) (fun ks vs=>k (.fzm ks vs)) (k .dead) (k .unborn) (fun ks vs=>forceDs vs fun vs=>k (.mapd ks vs)) (fun es=>k (.byt es)) (fun b es=>k (.may b es)) o
def F3 (o:Ob)(k:Ob->R):sJ o k=k o:=by
 cases o<;>simp only[sJ,fC]
def forceHb (hp:List Ob)(k:List Ob->R):R:=
 List.rec (motive:=fun _=>(List Ob->R)->R) (fun k=>k []) (fun o _ ih k=>sJ o fun o=>ih fun r=>k (o::r)) hp k
def iW:∀(hp:List Ob) (k:List Ob->R),forceHb hp k=k hp
 |[],k=>rfl
 |o::r,k=>by
  show sJ o (fun o=>forceHb r fun r=>k (o::r))=_;rw[F3,iW r]
def Ug (l:LN)(x:Nat):Bool:=List.rec (motive:=fun _=>Bool) false (fun y _ ih=>Bool.rec (motive:=fun _=>Bool) ih true (Nat.beq x y)) l
def IG (x:Nat):∀l,Ug l x=l.contains x
 |[]=>rfl
 |y::r=>by
  show Bool.rec (motive:=fun _=>Bool) (Ug r x) true (Nat.beq x y)=_;rw[IG x r,List.contains_cons];have:(x==y)=Nat.beq x y:=by rw[mζ,beq_iff_eq,Nat.beq_eq]
  rw[this];cases Nat.beq x y<;>rfl
def I1 (l:LN)(x:Nat):LN:=List.rec (motive:=fun _=>LN) [x] (fun y _ ih=>y::ih) l
def EA (x:Nat):∀l,I1 l x=l++[x]
 |[]=>rfl
 |y::r=>by
  show y::I1 r x=_;rw[EA x r];rfl
def DA (hp:List Ob)(i:Nat):Ob:=List.rec (motive:=fun _=>Nat->Ob) (fun _=> .dead) (fun o _ ih i=>Nat.rec (motive:=fun _=>Ob) o (fun i _=>ih i) i) hp i
def jQ:∀(hp:List Ob) (i:Nat),DA hp i=hp.getD i .dead
 |[],i=>by rfl
 |o::r,0=>rfl
 |o::r,i+1=>by
  show DA r i=_;rw[jQ r i];simp
def xH (d:D):LN->LN:=
 D.rec (motive_1:=fun _=>LN->LN) (motive_2:=fun _=>LN->LN)
  (fun _ ws=>ws) (fun _ ih ws=>ih ws) (fun _ ih ws=>ih ws) (fun id _ ws=>id::ws) (fun id _ _ ws=>id::ws) (fun _ _ ws=>ws)
  (fun id _ _ _ ws=>id::ws) (fun _ _ _ ws=>ws) (fun id ws=>id::ws) (fun _ _ ih ws=>ih ws) (fun _ _ ih ws=>ih ws) (fun ws=>ws) (fun ws=>ws) (fun _ _ ihd ihr ws=>ihd (ihr ws)) d
def dr (ds:List D)(ws:LN):LN:=List.rec (motive:=fun _=>LN) ws (fun d _ ih=>xH d ih) ds
mutual
def oW:∀(d:D) (ws:LN),xH d ws=dids d++ws
 | .p _,ws=>rfl
 | .agg cs,ws=>oY cs ws
 | .tup cs,ws=>oY cs ws
 | .box _ _,ws=>rfl
 | .el _ _ _,ws=>rfl
 | .ip _ _,ws=>rfl
 | .arr _ _ _ _,ws=>rfl
 | .sl _ _ _,ws=>rfl
 | .map _,ws=>rfl
 | .fn _ cs,ws=>oY cs ws
 | .iface _ d,ws=>oW d ws
 | .junk,ws=>rfl
def oY:∀(ds:List D) (ws:LN),D.rec_1 (motive_1:=fun _=>LN->LN) (motive_2:=fun _=>LN->LN)
  (fun _ ws=>ws) (fun _ ih ws=>ih ws) (fun _ ih ws=>ih ws) (fun id _ ws=>id::ws) (fun id _ _ ws=>id::ws) (fun _ _ ws=>ws)
  (fun id _ _ _ ws=>id::ws) (fun _ _ _ ws=>ws) (fun id ws=>id::ws) (fun _ _ ih ws=>ih ws) (fun _ _ ih ws=>ih ws) (fun ws=>ws) (fun ws=>ws) (fun _ _ ihd ihr ws=>ihd (ihr ws)) ds ws=dids.didsL ds++ws
 |[],ws=>rfl
 |d::r,ws=>by
  show xH d (D.rec_1 (motive_1:=fun _=>LN->LN) (motive_2:=fun _=>LN->LN) _ _ _ _ _ _ _ _ _ _ _ _ _ _ r ws)=_;rw[oW d,oY r];simp only[dids.didsL,mξ]
end
def dw (ws:LN):∀ds,dr ds ws=dids.didsL ds++ws
 |[]=>rfl
 |d::r=>by
  show xH d (dr r ws)=_;rw[oW,dw ws r];simp only[dids.didsL,mξ]
def uY (o:Ob)(ws:LN):LN:=Ob.rec (motive:=fun _=>LN) (fun cs=>dr cs ws) (fun _=>ws) (fun _=>ws) (fun _ _=>ws) (fun _ _=>ws) ws ws (fun _ vs=>dr vs ws) (fun _=>ws) (fun _ _=>ws) o
def yg (o:Ob)(ws:LN):uY o ws=gj o++ws:=by
 cases o<;>first|rfl|exact dw ws _
def eg (hp:List Ob)(n:Nat):LN->LN->LN:=
 Nat.rec (motive:=fun _=>LN->LN->LN) (fun _ acc=>acc)
  (fun _ ih ws acc=>List.rec (motive:=fun _=>LN) acc (fun id ws _=>Bool.rec (motive:=fun _=>LN) (ih (uY (DA hp id) ws) (I1 acc id)) (ih ws acc) (Ug acc id)) ws) n
def cY (hp:List Ob):∀(n:Nat) (ws acc:LN),eg hp n ws acc=ce hp n ws acc
 |0,ws,acc=>rfl
 |n+1,[],acc=>rfl
 |n+1,id::ws,acc=>by
  show Bool.rec (motive:=fun _=>LN) (eg hp n (uY (DA hp id) ws) (I1 acc id)) (eg hp n ws acc) (Ug acc id)=_;rw[cY hp n,cY hp n,IG,EA,yg,jQ];simp only[ce];cases acc.contains id<;>simp
def hU (ids:LN)(id:Nat):Option Nat:=
 List.rec (motive:=fun _=>Nat->Option Nat) (fun _=>none) (fun x _ ih n=>Bool.rec (motive:=fun _=>Option Nat) (ih (Nat.succ n)) (some n) (Nat.beq x id)) ids 0
def iz (ids:LN):hU ids=idx ids:=by
 funext id
 have go:∀(l:LN) (n:Nat),List.rec (motive:=fun _=>Nat->Option Nat) (fun _=>none) (fun x _ ih n=>Bool.rec (motive:=fun _=>Option Nat) (ih (Nat.succ n)) (some n) (Nat.beq x id)) l n=idx.go id l n:=by
  intro l;induction l with
  |nil=>intro n;rfl
  |cons x r ih=>
   intro n;show Bool.rec (motive:=fun _=>Option Nat) _ (some n) (Nat.beq x id)=bif Nat.beq x id then some n else idx.go id r (n+1)
   rw[<-ih (n+1)];cases Nat.beq x id<;>rfl
 exact go ids 0
def R_ (σ:Nat->Option Nat)(d:D):D:=
 D.rec (motive_1:=fun _=>D) (motive_2:=fun _=>List D)
  (fun x=> .p x) (fun _ ih=> .agg ih) (fun _ ih=> .tup ih) (fun id off=>Option.rec (motive:=fun _=>D) .junk (fun j=> .box j off) (σ id)) (fun id i off=>Option.rec (motive:=fun _=>D) .junk (fun j=> .el j i off) (σ id)) (fun x off=> .ip x off)
  (fun id lo len z=>Option.rec (motive:=fun _=>D) .junk (fun j=> .arr j lo len z) (σ id)) (fun g z es=> .sl g z es) (fun id=>Option.rec (motive:=fun _=>D) .junk (fun j=> .map j) (σ id)) (fun f _ ih=> .fn f ih) (fun t _ ih=> .iface t ih) .junk [] (fun _ _ ihd ihr=>ihd::ihr) d
def fi (σ:Nat->Option Nat)(ds:List D):List D:=List.rec (motive:=fun _=>List D) [] (fun d _ ih=>R_ σ d::ih) ds
mutual
def fm (σ:Nat->Option Nat):∀(d:D),R_ σ d=mapD σ d
 | .p _=>rfl
 | .agg cs=>by show D.agg _=_;rw[pE σ cs];rfl
 | .tup cs=>by show D.tup _=_;rw[pE σ cs];rfl
 | .box id _=>by simp only[R_,mapD];cases σ id<;>rfl
 | .el id _ _=>by simp only[R_,mapD];cases σ id<;>rfl
 | .ip _ _=>rfl
 | .arr id _ _ _=>by simp only[R_,mapD];cases σ id<;>rfl
 | .sl _ _ _=>rfl
 | .map id=>by simp only[R_,mapD];cases σ id<;>rfl
 | .fn _ cs=>by show D.fn _ _=_;rw[pE σ cs];rfl
 | .iface _ d=>by
  show D.iface _ (R_ σ d)=_;rw[fm σ d];rfl
 | .junk=>rfl
def pE (σ:Nat->Option Nat):∀(ds:List D),D.rec_1 (motive_1:=fun _=>D) (motive_2:=fun _=>List D)
  (fun x=> .p x) (fun _ ih=> .agg ih) (fun _ ih=> .tup ih) (fun id off=>Option.rec (motive:=fun _=>D) .junk (fun j=> .box j off) (σ id)) (fun id i off=>Option.rec (motive:=fun _=>D) .junk (fun j=> .el j i off) (σ id)) (fun x off=> .ip x off)
  (fun id lo len z=>Option.rec (motive:=fun _=>D) .junk (fun j=> .arr j lo len z) (σ id)) (fun g z es=> .sl g z es) (fun id=>Option.rec (motive:=fun _=>D) .junk (fun j=> .map j) (σ id)) (fun f _ ih=> .fn f ih) (fun t _ ih=> .iface t ih) .junk [] (fun _ _ ihd ihr=>ihd::ihr) ds=mapD.mapDL σ ds
 |[]=>rfl
 |d::r=>by
  show R_ σ d::_=_;rw[pE σ r,fm σ d];rfl
end
def gC (σ:Nat->Option Nat):∀ds,fi σ ds=mapD.mapDL σ ds
 |[]=>rfl
 |d::r=>by
  show R_ σ d::fi σ r=_;rw[fm,gC σ r];rfl
def mu (σ:Nat->Option Nat)(o:Ob):Ob:=Ob.rec (motive:=fun _=>Ob) (fun cs=> .box (fi σ cs)) (fun es=> .arr es) (fun es=> .fz es) (fun ks vs=> .map ks vs) (fun ks vs=> .fzm ks vs) .dead .unborn (fun ks vs=> .mapd ks (fi σ vs)) (fun es=> .byt es) (fun b es=> .may b es) o
def ya (σ:Nat->Option Nat)(o:Ob):mu σ o=bS σ o:=by
 cases o<;>try rfl
 ·simp only[mu,bS,gC]
 ·simp only[mu,bS,gC]
def lg (ids:LN)(hp:List Ob):List Ob:=List.rec (motive:=fun _=>List Ob) [] (fun i _ ih=>mu (hU ids) (DA hp i)::ih) ids
def jf (ids:LN)(hp:List Ob):lg ids hp=bJ ids hp:=by
 have go:∀l:LN,List.rec (motive:=fun _=>List Ob) [] (fun i _ ih=>mu (hU ids) (DA hp i)::ih) l=l.map fun i=>bS (idx ids) (aI hp i):=by
  intro l;induction l with
  |nil=>rfl
  |cons x r ih=>
   show mu (hU ids) (DA hp x)::_=_;rw[ih,ya,iz,jQ];rfl
 exact go ids
def ll (σ:Nat->Option Nat)(hp:List Ob):List Ob:=List.rec (motive:=fun _=>List Ob) [] (fun o _ ih=>mu σ o::ih) hp
def j4 (σ:Nat->Option Nat):∀hp,ll σ hp=hp.map (bS σ)
 |[]=>rfl
 |o::r=>by
  show mu σ o::ll σ r=_;rw[ya,j4 σ r];rfl
def gO (m:Nat)(hp:List Ob):LN:=List.rec (motive:=fun _=>Nat->LN) (fun _=>[]) (fun o _ ih m=>Nat.rec (motive:=fun _=>LN) [] (fun m _=>uY o (ih m)) m) hp m
def gD:∀(hp:List Ob) (m:Nat),gO m hp=(hp.take m).flatMap gj
 |[],m=>by simp[gO]
 |o::r,0=>rfl
 |o::r,m+1=>by
  show uY o (gO m r)=_;rw[yg,gD r m];simp
def Ay (hp:List Ob)(i:Nat)(o:Ob)(k:List Ob->R):R:=
 List.rec (motive:=fun _=>Nat->(List Ob->R)->R) (fun _ k=>k []) (fun x r ih i k=>Nat.rec (motive:=fun _=>R) (k (o::r)) (fun i _=>ih i fun r=>k (x::r)) i) hp i k
def pV (o:Ob):∀(hp:List Ob) (i:Nat) (k:List Ob->R),Ay hp i o k=k (jd hp i o)
 |[],i,k=>by rfl
 |x::r,0,k=>rfl
 |x::r,i+1,k=>by
  show Ay r i o (fun r=>k (x::r))=_;rw[pV o r i];rfl
def ZK (o:Ob)(t:R):R:=Ob.rec (motive:=fun _=>R) (fun _=>none) (fun _=>none) (fun _=>none) (fun _ _=>none) (fun _ _=>none) none t (fun _ _=>none) (fun _=>none) (fun _ _=>none) o
def Hg (o:Ob)(t:R):ZK o t=bif cT o then t else none:=by cases o<;>rfl
def I4 (l:LN)(n:Nat)(k:LN->R):R:=
 List.rec (motive:=fun _=>Nat->(LN->R)->R) (fun _ k=>k []) (fun x _ ih n k=>Nat.rec (motive:=fun _=>R) (k []) (fun n _=>ih n fun r=>k (x::r)) n) l n k
def EC:∀(l:LN) (n:Nat) (k:LN->R),I4 l n k=k (l.take n)
 |[],n,k=>by simp[I4]
 |x::r,0,k=>rfl
 |x::r,n+1,k=>by
  show I4 r n (fun r=>k (x::r))=_;rw[EC r n];rfl
def Æ {α:Type}(l:List α)(n:Nat):List α:=Nat.rec (motive:=fun _=>List α) l (fun _ ih=>tl ih) n
def Hd {α:Type}(l:List α):∀n,Æ l n=l.drop n
 |0=>rfl
 |n+1=>by
  show tl (Æ l n)=_;rw[QP,Hd l n,mχ]
def OX {α:Type}(l:List α)(n:Nat):List α:=Æ (If l (Nat.div n 16)) (Nat.mod n 16)
variable {α:Type}
def OY (l:List α)(n:Nat):OX l n=l.drop n:=by
 unfold OX;rw[Hd,ul,mχ];congr 1;exact Nat.div_add_mod n 16
def ü (d:D):Bool:=
 D.rec (motive_1:=fun _=>Bool) (motive_2:=fun _=>PUnit.{1})
  (fun _=>true) (fun _ _=>false) (fun _ _=>false) (fun _ _=>true) (fun _ _ _=>true) (fun _ _=>true) (fun _ _ _ _=>true) (fun _ _ _=>true) (fun _=>true) (fun _ _ _=>true) (fun _ _ _=>true) false ⟨⟩ (fun _ _ _ _=>⟨⟩) d
def XW (d:D):ü d=du d:=by cases d<;>rfl
def Pz (xs:List D)(n:Nat):Bool:=
 List.rec (motive:=fun _=>Nat->Bool) (fun n=>Nat.rec (motive:=fun _=>Bool) true (fun _ _=>false) n) (fun d _ ih n=>Nat.rec (motive:=fun _=>Bool) false (fun m _=>Bool.rec (motive:=fun _=>Bool) false (ih m) (ü d)) n) xs n
def zo:∀(xs:List D) (n:Nat),Pz xs n=(Nat.beq xs.length n&&xs.all du)
 |[],0=>rfl
 |[],n+1=>rfl
 |d::r,0=>rfl
 |d::r,n+1=>by
  show Bool.rec (motive:=fun _=>Bool) false (Pz r n) (ü d)=(Nat.beq r.length n&&(du d&&r.all du));rw[zo r n,XW];cases du d<;>simp
def PK {α:Type}(xs:List α)(n:Nat):Bool:=
 List.rec (motive:=fun _=>Nat->Bool) (fun n=>Nat.rec (motive:=fun _=>Bool) true (fun _ _=>false) n) (fun _ _ ih n=>Nat.rec (motive:=fun _=>Bool) true (fun m _=>ih m) n) xs n
def sM {α:Type}:∀(xs:List α) (n:Nat),PK xs n=Nat.ble n xs.length
 |[],0=>rfl
 |[],n+1=>rfl
 |d::r,0=>rfl
 |d::r,n+1=>sM r n
def IQ (xs:List D):List D->List D:=List.rec (motive:=fun _=>List D->List D) (fun cs=>cs) (fun x _ ih cs=>x::ih (tl cs)) xs
def DZ:∀(xs cs:List D),IQ xs cs=xs++cs.drop xs.length
 |[],cs=>rfl
 |x::r,cs=>by
  show x::IQ r (tl cs)=_;rw[DZ r,QP,mχ];grind
def LE (cs:List D)(off:Nat)(xs:List D):List D:=
 List.rec (motive:=fun _=>Nat->List D) (fun _=>xs) (fun c r ih off=>Nat.rec (motive:=fun _=>List D) (IQ xs (c::r)) (fun o _=>c::ih o) off) cs off
def AD (xs:List D):∀(cs:List D) (off:Nat),LE cs off xs=splice cs off xs
 |[],off=>by simp[LE,splice]
 |c::r,0=>by
  show IQ xs (c::r)=_;rw[DZ];simp[splice]
 |c::r,o+1=>by
  show c::LE r o xs=_;rw[AD xs r o];simp[splice,Nat.add_right_comm]
def P9 (cs:LD):List D:=List.rec (motive:=fun _=>List D) [] (fun x _ ih=> .p x::ih) cs
def sP:∀cs,P9 cs=cs.map .p
 |[]=>rfl
 |c::r=>by show D.p c::P9 r=_;rw[sP r];rfl
def oV (d:D)(k:List D->R):R:=
 D.rec (motive_1:=fun _=>R) (motive_2:=fun _=>PUnit.{1})
  (fun x=>Da.rec (motive_1:=fun _=>R) (motive_2:=fun _=>PUnit.{1})
   (fun _=>k [d]) (fun _ _=>k [d]) (fun _=>k [d]) (fun cs _=>k (P9 cs)) (fun _ _ _=>k [d]) (k [d]) (fun _ _=>k [d]) (fun _ _ _ _=>k [d]) (k [d]) (fun _ _ _=>k [d]) (k [d]) (fun _ _ _=>k [d]) (k [d]) (fun _ _ _=>k [d]) (fun _ _=>k [d]) ⟨⟩ (fun _ _ _ _=>⟨⟩) x)
  (fun ds _=>k ds) (fun _ _=>k [d]) (fun _ _=>k [d]) (fun _ _ _=>k [d]) (fun _ _=>k [d]) (fun _ _ _ _=>k [d]) (fun _ _ _=>k [d]) (fun _=>k [d]) (fun _ _ _=>k [d]) (fun _ _ _=>k [d]) (k [d]) ⟨⟩ (fun _ _ _ _=>⟨⟩) d
def uj (d:D)(k:List D->R):oV d k=k (bl d):=by
 cases d<;>try rfl
 rename_i x;cases x<;>try rfl
 simp only[oV,sP,bl]
def N1 (ds:List D)(e:R)(k:LD->R):R:=
 List.rec (motive:=fun _=>(LD->R)->R) (fun k=>k [])
  (fun d _ ih k=>ge d e fun x=>ih fun xs=>k (x::xs)) ds k
def Cb (e:R):∀(ds:List D) (k:LD->R),N1 ds e k=match gT ds with
  |some xs=>k xs
  |none=>e
 |[],k=>rfl
 |d::r,k=>by
  cases d<;>try rfl
  rename_i x;show N1 r e (fun xs=>k (x::xs))=_;rw[Cb e r];simp only[gT];grind
def zV (ds:List D)(k:D->R):R:=N1 ds (k (.agg ds)) fun xs=>k (.p (.agg xs))
def yd (ds:List D)(k:D->R):zV ds k=k (uU ds):=by
 simp only[zV,Cb,uU];grind
def Pv (ps:List (Nat×Nat)):List D->List D->(List D->R)->R:=
 List.rec (motive:=fun _=>List D->List D->(List D->R)->R)
  (fun cs ds k=>List.rec (motive:=fun _=>R) (k cs) (fun _ _ _=>none) ds)
  (fun p _ ih cs ds k=>List.rec (motive:=fun _=>R) none (fun d ds _=>oV d fun xs=>nW (Pz xs p.2) (nW (PK cs (Nat.add p.1 p.2)) (ih (LE cs p.1 xs) ds k) none) none) ds) ps
def CI:∀(ps:List (Nat×Nat)) (cs ds:List D) (k:List D->R),Pv ps cs ds k=caseO (nl cs ps ds) none k
 |[],cs,[],k=>rfl
 |[],cs,d::ds,k=>rfl
 |p::ps,cs,[],k=>rfl
 |(off,n)::ps,cs,d::ds,k=>by
  show oV d (fun xs=>nW (Pz xs n) (nW (PK cs (Nat.add off n)) (Pv ps (LE cs off xs) ds k) none) none)=_
  simp only[uj,zo,sM,AD,CI ps,nl];have:Nat.add off n=off+n:=rfl;cases Nat.beq (bl d).length n<;>cases(bl d).all du<;>cases Nat.ble (off+n) cs.length<;>rfl
def y0 (zs:List D)(ps:List (Nat×Nat))(vs:List D)(k:D->R):R:=Pv ps zs vs fun cs=>zV cs k
def QO {α:Type}(l:List α)(n:Nat)(k:List α->R):R:=
 List.rec (motive:=fun _=>Nat->(List α->R)->R) (fun n k=>Nat.rec (motive:=fun _=>R) (k []) (fun _ _=>none) n) (fun x _ ih n k=>Nat.rec (motive:=fun _=>R) (k []) (fun n _=>ih n fun r=>k (x::r)) n) l n k
def ED {α:Type}:∀(l:List α) (n:Nat) (k:List α->R),QO l n k=bif Nat.ble n l.length then k (l.take n)else none
 |[],0,k=>rfl
 |[],n+1,k=>rfl
 |x::r,0,k=>rfl
 |x::r,n+1,k=>by
  show QO r n (fun r=>k (x::r))=_;rw[ED r n];rfl
def Hc {α:Type}(l:List α)(off n:Nat)(k:List α->R):R:=nW (PK l off) (QO (Æ l off) n k) none
def og (agg:Bool)(ds:List D)(k:D->R):R:=Bool.rec (motive:=fun _=>R) (List.rec (motive:=fun _=>R) none (fun d r _=>List.rec (motive:=fun _=>R) (k d) (fun _ _ _=>none) r) ds) (zV ds k) agg
def j8 (agg:Bool)(ds:List D)(k:D->R):og agg ds k=caseO (dN agg ds) none k:=by
 cases agg with
 |true=>simp only[og,yd,dN,cond_true,caseO]
 |false=>
  match ds with
  |[]=>rfl
  |[d]=>rfl
  |_::_::_=>rfl
def IC (n:Nat)(agg:Bool)(d:D)(hp:List Ob)(e:R)(k:D->R):R:=
 D.rec (motive_1:=fun _=>R) (motive_2:=fun _=>PUnit.{1})
  (fun _=>e) (fun _ _=>none) (fun _ _=>none)
  (fun id off=>jw (DA hp id) none fun cs=>Hc cs off n fun ds=>og agg ds k)
  (fun _ _ _=>e)
  (fun x off=>Hc (cells x) off n fun xs=>og agg (P9 xs) k)
  (fun _ _ _ _=>none) (fun _ _ _=>none) (fun _=>none) (fun _ _ _=>none) (fun _ _ _=>none) none ⟨⟩ (fun _ _ _ _=>⟨⟩) d
def PA (off n:Nat)(agg:Bool)(d:D)(k:D->R):R:=
 D.rec (motive_1:=fun _=>R) (motive_2:=fun _=>PUnit.{1})
  (fun x=>Da.rec (motive_1:=fun _=>R) (motive_2:=fun _=>PUnit.{1})
   (fun _=>none) (fun _ _=>none) (fun _=>none) (fun cs _=>Hc cs off n fun xs=>og agg (P9 xs) k) (fun _ _ _=>none) none (fun _ _=>none) (fun _ _ _ _=>none) none (fun _ _ _=>none) none (fun _ _ _=>none) none (fun _ _ _=>none) (fun _ _=>none) ⟨⟩ (fun _ _ _ _=>⟨⟩) x)
  (fun ds _=>Hc ds off n fun ds=>og agg ds k) (fun _ _=>none) (fun _ _=>none) (fun _ _ _=>none) (fun _ _=>none) (fun _ _ _ _=>none) (fun _ _ _=>none) (fun _=>none) (fun _ _ _=>none) (fun _ _ _=>none) none ⟨⟩ (fun _ _ _ _=>⟨⟩) d
def yU (base kk:Nat)(zs:List D)(hp:List Ob)(k:KV):R:=
 forceN (Nat.add base kk) fun id=>ZK (DA hp id) (Ay hp id (.box zs) fun hp=>k (.box id 0) hp)
def Si (base:Nat)(n kk:Nat)(d:D)(hp:List Ob)(k:KV):R:=
 forceN (Nat.add base kk) fun id=>ZK (DA hp id) (forceDs (bl d) fun cs=>nW ((bif Nat.beq n 1000003 then Nat.beq cs.length 3 else Nat.beq cs.length n&&!b3 cs)&&cs.all du) (Ay hp id (.box cs) fun hp=>k (.box id 0) hp) none)
def G9 (n:Nat)(a d:D)(hp:List Ob)(e:R)(k:KV):R:=
 D.rec (motive_1:=fun _=>R) (motive_2:=fun _=>PUnit.{1})
  (fun _=>none) (fun _ _=>none) (fun _ _=>none)
  (fun id off=>jw (DA hp id) none fun cs=>oV d fun xs=>nW (Pz xs n) (nW (PK cs (Nat.add off n)) (forceDs (LE cs off xs) fun cs1=>nW (b3 cs1&&!b3 cs) none (Ay hp id (.box cs1) fun hp=>k .junk hp)) none) none)
  (fun _ _ _=>e) (fun _ _=>none)
  (fun _ _ _ _=>none) (fun _ _ _=>none) (fun _=>none) (fun _ _ _=>none) (fun _ _ _=>none) none ⟨⟩ (fun _ _ _ _=>⟨⟩) a
section eqs
variable {call:aD} {base kk:Nat} {hp:List Ob} {k:KV}
def J6 (zs:List D):c4 call base (.alloc zs) kk [] hp k=yU base kk zs hp k:=by
 simp only[yU,iF,Hg,pV,jQ];rfl
def Sj (n:Nat)(d:D):c4 call base (.box n) kk [d] hp k=Si base n kk d hp k:=by
 simp only[Si,iF,Hg,pV,jQ,fC,jN];show(bif cT (aI hp (base+kk))then match NS n base kk [d]with
  |none=>none
  |some (v,ups,new)=>k v (grow (au hp ups) new)else none)=_
 simp only[NS];have:aI hp (base+kk)=hp.getD (Nat.add base kk) .dead:=rfl;rw[this];cases cT (hp.getD (Nat.add base kk) .dead)
 ·rfl
 ·cases((bif Nat.beq n 1000003 then Nat.beq (bl d).length 3 else Nat.beq (bl d).length n&&!b3 (bl d))&&(bl d).all du)<;>rfl
def LL (n:Nat)(a d:D):c4 call base (.store n) kk [a,d] hp k=G9 n a d hp (c4 call base (.store n) kk [a,d] hp k) k:=by
 cases a<;>try rfl
 rename_i id off;simp only[G9,pV,jQ,fC,uj,zo,sM,AD];have hn:bm (.store n) [.box id off,d] hp=id::(dids d++[]):=rfl;have hl:ej ((id::(dids d++[])).zip ((id::(dids d++[])).map (aI hp))) id=aI hp id:=by
  simp only[List.map_cons,List.zip_cons_cons,ej,show Nat.beq id id=true from Nat.beq_refl id,cond_true]
 simp only[c4,nb,kV,hn,hl];have:aI hp id=hp.getD id .dead:=rfl;rw[this];cases hp.getD id .dead<;>try rfl
 rename_i cs;have h2:Nat.add off n=off+n:=rfl;simp only[jw,h2];cases Nat.beq (bl d).length n<;>cases(bl d).all du<;>cases Nat.ble (off+n) cs.length<;>first|rfl|(cases(b3 (splice cs off (bl d))&&!b3 cs)<;>rfl)
def pY (l:List α)(off n:Nat)(f:List α->R):Hc l off n f=caseO (sub l off n) none f:=by
 unfold Hc sub;rw[jN,sM,Hd,ED,mυ];cases h:Nat.ble (off+n) l.length
 ·cases h1:Nat.ble off l.length
  ·rfl
  ·have:Nat.ble n (l.length - off)=false:=by
    rw[<-Bool.not_eq_true,Nat.ble_eq]at h ⊢
    simp_all;omega
   rw[this];rfl
 ·have:=Nat.le_of_ble_eq_true h;rw[Nat.ble_eq.mpr (by omega:off<=l.length),Nat.ble_eq.mpr (by omega:n<=l.length - off)];rfl
def P6 (n:Nat)(agg:Bool)(x:D):c4 call base (.load n agg) kk [x] hp k=IC n agg x hp (hT (fJ n agg [x] ((dids x).map (aI hp))) fun v=>k v hp) fun v=>k v hp:=by
 rw[cC rfl];cases x<;>try rfl
 ·rename_i id off;show hT (fJ n agg [.box id off] [aI hp id]) (fun v=>k v hp)=_;simp only[IC,fJ,jQ,pY,j8];have:aI hp id=hp.getD id .dead:=rfl;rw[this];cases hp.getD id .dead<;>try rfl
  rename_i cs;simp only[jw];cases sub cs off n with
  |none=>rfl
  |some ds=>
   simp only[caseO];cases dN agg ds<;>rfl
 ·rename_i x off;show hT (fJ n agg [.ip x off] []) (fun v=>k v hp)=_;simp only[IC,fJ,pY,j8,sP];cases sub (cells x) off n with
  |none=>rfl
  |some ds=>
   simp only[caseO];cases dN agg (ds.map .p)<;>rfl
def UE {β:Type}(f:α->β)(l:List α)(off n:Nat):sub (l.map f) off n=(sub l off n).map (List.map f):=by
 unfold sub;rw[lβ];cases Nat.ble (off+n) l.length;all_goals simp_all
def Tt (off n:Nat)(agg:Bool)(x:D):c4 call base (.fld off n agg) kk [x] hp k=PA off n agg x fun v=>k v hp:=by
 rw[cC rfl];show hT (B2 off n agg [x]) (fun v=>k v hp)=_;cases x<;>try rfl
 ·rename_i x;cases x<;>try rfl
  rename_i cs;simp only[B2,PA,pY,j8,sP,UE];cases sub cs off n with
  |none=>rfl
  |some ds=>
   simp only[Option.map_some,caseO];cases dN agg (ds.map .p)<;>rfl
 ·rename_i cs;simp only[B2,PA,pY,j8];cases sub cs off n with
  |none=>rfl
  |some ds=>
   simp only[caseO];cases dN agg ds<;>rfl
def Kc (zs:List D)(ps:List (Nat×Nat))(vs:List D):c4 call base (.build zs ps) kk vs hp k=y0 zs ps vs fun v=>k v hp:=by
 rw[cC rfl];show hT (nF zs ps vs) (fun v=>k v hp)=_;simp only[nF,y0,CI,yd];cases nl zs ps vs<;>rfl
end eqs
def Vz (n:Nat)(agg:Bool)(x:D)(hp:List Ob)(k:D->R):R:=IC n agg x hp (hT (fJ n agg [x] ((dids x).map (aI hp))) k) k
def AE (call:aD)(base n kk:Nat)(a d:D)(hp:List Ob)(k:KV):R:=
 G9 n a d hp (c4 call base (.store n) kk [a,d] hp fun v hp=>Ũ hp fun hp=>k v hp) k
def PF (call:aD)(base:Nat)(o:O)(kk:Nat)(vs:List D)(hp:List Ob)(k:KV):R:=
 c4 call base o kk vs hp fun v hp=>fB v fun v=>Ũ hp fun hp=>k v hp
def zw (call:aD)(base:Nat)(o:O)(kk:Nat)(vs:List D)(hp:List Ob)(k:KV):PF call base o kk vs hp k=c4 call base o kk vs hp k:=by
 simp only[PF,j2,iX]
def LH (call:aD)(base n kk:Nat)(a d:D)(hp:List Ob)(k:KV):AE call base n kk a d hp k=c4 call base (.store n) kk [a,d] hp k:=by
 simp only[AE,iX];exact(LL n a d).symm
def AB (lo hi:Bool)(x:D)(xs:List D)(k:D->R):R:=
 ge x none fun x=>mW x none fun s=>caseO (l0 lo hi false (Dk s) xs) none fun b=>I4 (OX s b.1) (Nat.sub b.2.1 b.1) fun r=>k (.p (.str r))
variable {kk:Nat} {k:KV}
def LC {call:aD}{base:Nat}{hp:List Ob}(lo hi:Bool)(x:D)(xs:List D):c4 call base (.slStr lo hi) kk (x::xs) hp k=AB lo hi x xs fun v=>k v hp:=by
 rw[cC rfl];show hT (kU lo hi (x::xs)) (fun v=>k v hp)=_;cases x<;>try rfl
 rename_i x;cases x<;>try rfl
 rename_i s;simp only[kU,AB,ge,mW,EC,OY,jB];cases l0 lo hi false s.length xs with
 |none=>rfl
 |some b=>rfl
def sA (es:LD)(n:Nat)(ys:LD)(e:R)(k:LD->R):R:=
 List.rec (motive:=fun _=>Nat->(LD->R)->R) (fun n k=>Nat.rec (motive:=fun _=>R) (k ys) (fun _ _=>e) n) (fun x _ ih n k=>Nat.rec (motive:=fun _=>R) (k ys) (fun m _=>ih m fun r=>k (x::r)) n) es n k
def t6 (ys:LD)(e:R):∀(es:LD) (n:Nat) (k:LD->R),sA es n ys e k=bif Nat.ble n es.length then k (es.take n++ys)else e
 |[],0,k=>rfl
 |[],n+1,k=>rfl
 |x::r,0,k=>rfl
 |x::r,n+1,k=>by
  show sA r n ys e (fun r=>k (x::r))=_;rw[t6 ys e r];rfl
def H7 (o:Ob)(e:R)(k:LD->R):R:=
 Ob.rec (motive:=fun _=>R) (fun _=>e) (fun es=>k es) (fun _=>e) (fun _ _=>e) (fun _ _=>e) e e (fun _ _=>e) (fun _=>e) (fun _ _=>e) o
def yK (esz:Nat)(b:D)(e:R)(k:LD->R):R:=
 D.rec (motive_1:=fun _=>R) (motive_2:=fun _=>PUnit.{1})
  (fun x=>gv x e fun z es=>nW (Nat.beq z esz) (k es) e) (fun _ _=>e) (fun _ _=>e) (fun _ _=>e) (fun _ _ _=>e) (fun _ _=>e) (fun _ _ _ _=>e) (fun _ z es=>nW (Nat.beq z esz) (k es) e) (fun _=>e) (fun _ _ _=>e) (fun _ _ _=>e) e ⟨⟩ (fun _ _ _ _=>⟨⟩) b
def ZP (esz:Nat)(b:D)(os:List (Nat×Ob))(e:R)(k:LD->R):yK esz b e k=e\/∃ys,elems esz os b=some ys/\yK esz b e k=k ys:=by
 cases b<;>try exact .inl rfl
 ·rename_i x;cases x<;>try exact .inl rfl
  all_goals
   simp only[yK,gv,jN,elems,li,s0];grind
 ·simp only[yK,jN,elems,li,s0];grind
def Wl (esz bytes base kk:Nat)(a b:D)(hp:List Ob)(e:R)(k:KV):R:=
 D.rec (motive_1:=fun _=>R) (motive_2:=fun _=>PUnit.{1})
  (fun _=>e) (fun _ _=>e) (fun _ _=>e) (fun _ _=>e) (fun _ _ _=>e) (fun _ _=>e)
  (fun id lo len z=>Nat.rec (motive:=fun _=>R) (nW (Nat.beq z esz) (H7 (DA hp id) e fun es=>yK esz b e fun ys=>sA es len ys e fun zs=>
   forceN (Nat.add len (Dk ys)) fun l=>nW (Nat.ble (Nat.mul (Nat.add (Nat.mul 2 l) 192) bytes) 281474976710656) (nW (Nat.ble (Nat.add (Nat.mul 2 l) 192) 9223372036854775807)
    (forceN (Nat.add base kk) fun i=>ZK (DA hp i) (Ay hp id .dead fun hp=>Ay hp i (.arr zs) fun hp=>k (.arr i 0 l esz) hp)) none) none) e) (fun _ _=>e) lo)
  (fun _ _ _=>e) (fun _=>e) (fun _ _ _=>e) (fun _ _ _=>e) e ⟨⟩ (fun _ _ _ _=>⟨⟩) a
def R7 {call:aD}{base:Nat}{hp:List Ob}(esz bytes:Nat)(a b:D):c4 call base (.app esz bytes) kk [a,b] hp k=Wl esz bytes base kk a b hp (c4 call base (.app esz bytes) kk [a,b] hp k) k:=by
 cases a<;>try rfl
 rename_i id lo len z;cases lo with
 |succ lo=>rfl
 |zero=>
  simp only[Wl,jN];cases hz:Nat.beq z esz
  ·rfl
  ·have ho:aI hp id=DA hp id:=(jQ hp id).symm;cases hob:DA hp id<;>try rfl
   rename_i es;simp only[H7];have hn:bm (.app esz bytes) [.arr id 0 len z,b] hp=id::(dids b++[]):=rfl;have hl:ej ((id::(dids b++[])).zip ((id::(dids b++[])).map (aI hp))) id= .arr es:=by
    simp only[List.map_cons,List.zip_cons_cons,ej,show Nat.beq id id=true from Nat.beq_refl id,cond_true,ho,hob]
   rcases ZP esz b ((id::(dids b++[])).zip ((id::(dids b++[])).map (aI hp))) (c4 call base (.app esz bytes) kk [.arr id 0 len z,b] hp k) (fun ys=>sA es len ys (c4 call base (.app esz bytes) kk [.arr id 0 len z,b] hp k) fun zs=>
   forceN (Nat.add len (Dk ys)) fun l=>bif Nat.ble (Nat.mul (Nat.add (Nat.mul 2 l) 192) bytes) 281474976710656 then bif Nat.ble (Nat.add (Nat.mul 2 l) 192) 9223372036854775807 then
    (forceN (Nat.add base kk) fun i=>ZK (DA hp i) (Ay hp id .dead fun hp=>Ay hp i (.arr zs) fun hp=>k (.arr i 0 l esz) hp))else none else none)with hy|⟨ys,hy1,hy2⟩
   ·exact hy.symm
   ·rw[hy2,t6];cases hle:Nat.ble len es.length
    ·rfl
    ·have hle':=Nat.le_of_ble_eq_true hle;have hlen:(es.take len).length=len:=by grind
     simp only[iF,pV,Hg,jQ,jB];simp only[c4,nb,lu,hn,jv,hl,hz,cond_true,List.drop_zero,hy1,hlen,cond_false];have e1:aI hp (base+kk)=hp.getD (Nat.add base kk) .dead:=rfl;rw[e1];have e2:(2*(len+ys.length)+192)*bytes=Nat.mul (Nat.add (Nat.mul 2 (Nat.add len ys.length)) 192) bytes:=rfl;have e3:2*(len+ys.length)+192=Nat.add (Nat.mul 2 (Nat.add len ys.length)) 192:=rfl;cases cT (hp.getD (Nat.add base kk) .dead)<;>cases Nat.ble (Nat.mul (Nat.add (Nat.mul 2 (Nat.add len ys.length)) 192) bytes) 281474976710656<;>cases Nat.ble (Nat.add (Nat.mul 2 (Nat.add len ys.length)) 192) 9223372036854775807<;>rfl
def R3 (call:aD)(base esz bytes kk:Nat)(a b:D)(hp:List Ob)(k:KV):R:=
 Wl esz bytes base kk a b hp (PF call base (.app esz bytes) kk [a,b] hp k) k
def R4 (call:aD)(base esz bytes kk:Nat)(a b:D)(hp:List Ob)(k:KV):R3 call base esz bytes kk a b hp k=c4 call base (.app esz bytes) kk [a,b] hp k:=by
 unfold R3;rw[zw];exact(R7 esz bytes a b).symm
def Oo (esz:Nat)(d:D)(e:R)(k:D->R):R:=ge d e fun x=>nW (Nat.beq (Dk (cells x)) esz) (k (.sl .exact esz [x])) none
def Oq {call:aD}{base:Nat}{hp:List Ob}(esz:Nat)(z:Da)(d:D):c4 call base (.bsl esz z 1 [0]) kk [d] hp k=Oo esz d (c4 call base (.bsl esz z 1 [0]) kk [d] hp k) fun v=>k v hp:=by
 cases d<;>try rfl
 rename_i x;simp only[Oo,ge,jB];have:c4 call base (.bsl esz z 1 [0]) kk [.p x] hp k=match J2 esz z 1 [0] [.p x] [] []with
  |none=>none
  |some (v,ups,new)=>k v (grow (au hp ups) new):=rfl
 rw[this];simp only[J2,pur.purL,pur,List.all_cons,Bool.and_true];cases Nat.beq (cells x).length esz
 ·rfl
 ·rfl
def Ol (call:aD)(base esz:Nat)(z:Da)(kk:Nat)(d:D)(hp:List Ob)(k:KV):R:=Oo esz d (PF call base (.bsl esz z 1 [0]) kk [d] hp k) fun v=>k v hp
def On (call:aD)(base esz:Nat)(z:Da)(kk:Nat)(d:D)(hp:List Ob)(k:KV):Ol call base esz z kk d hp k=c4 call base (.bsl esz z 1 [0]) kk [d] hp k:=by
 unfold Ol;rw[zw];exact(Oq esz z d).symm
def mg (d:D)(k:D->R):R:=
 D.rec (motive_1:=fun _=>R) (motive_2:=fun _=>PUnit.{1})
  (fun x=>Da.rec (motive_1:=fun _=>R) (motive_2:=fun _=>PUnit.{1})
   (fun b=>Bool.rec (motive:=fun _=>R) (k (.p (.bool false))) (k (.p (.bool true))) b) (fun i n=>zp n fun n=>k (.p (.int i n))) (fun s=>forceNs s fun s=>k (.p (.str s))) (fun cs _=>pg cs fun cs=>k (.p (.agg cs))) (fun z es _=>pg es fun es=>k (.p (.slice z es))) (k d) (fun _ _=>k d) (fun _ _ _ _=>k d) (k d) (fun _ _ _=>k d) (k d) (fun _ _ _=>k d) (k d) (fun _ _ _=>k d) (fun _ _=>k d) ⟨⟩ (fun _ _ _ _=>⟨⟩) x)
  (fun cs _=>k (.agg cs)) (fun ds _=>forceDs ds fun ds=>k (.tup ds)) (fun _ _=>fB d k) (fun _ _ _=>fB d k) (fun _ _=>k d)
  (fun _ _ _ _=>fB d k) (fun _ _ _=>k d) (fun _=>fB d k) (fun _ _ _=>k d) (fun _ _ _=>k d) (k d) ⟨⟩ (fun _ _ _ _=>⟨⟩) d
def KM (d:D)(k:D->R):mg d k=k d:=by
 cases d<;>(try rfl)<;>(try (simp only[mg,j2];done))
 ·rename_i x;cases x<;>try rfl
  ·rename_i b;cases b<;>rfl
  ·simp only[mg,xO]
  ·simp only[mg,iY]
  ·simp only[mg,kZ]
  ·simp only[mg,kZ]
 ·simp only[mg,fC]
end
section
def mz (vs:List D)(e:R)(k:List D->R):R:=
 List.rec (motive:=fun _=>(List D->R)->R) (fun k=>k [])
  (fun d _ ih k=>D.rec (motive_1:=fun _=>R) (motive_2:=fun _=>PUnit.{1})
   (fun x=>ih fun xs=>k (.p x::xs)) (fun _ _=>e) (fun _ _=>e) (fun _ _=>e) (fun _ _ _=>e) (fun _ _=>e) (fun _ _ _ _=>e) (fun _ _ _=>e) (fun _=>e) (fun _ _ _=>e) (fun _ _ _=>e) e ⟨⟩ (fun _ _ _ _=>⟨⟩) d) vs k
def IV (r:D)(e:R)(k:D->R):R:=
 D.rec (motive_1:=fun _=>R) (motive_2:=fun _=>PUnit.{1})
  (fun x=>k (.p x)) (fun _ _=>e) (fun ds _=>mz ds e fun ds=>k (.tup ds)) (fun _ _=>e) (fun _ _ _=>e) (fun _ _=>e) (fun _ _ _ _=>e) (fun _ _ _=>e) (fun _=>e) (fun _ _ _=>e) (fun _ _ _=>e) e ⟨⟩ (fun _ _ _ _=>⟨⟩) r
def EM:D->Bool
 | .p _=>true
 |_=>false
def gZ (e:R):∀(vs:List D) (k:List D->R),mz vs e k=bif vs.all EM then k vs else e
 |[],k=>rfl
 |d::r,k=>by
  cases d<;>try rfl
  rename_i x;show mz r e (fun xs=>k (.p x::xs))=_;rw[gZ e r];rfl
def vi:D->Bool
 | .p _=>true
 | .tup ds=>ds.all EM
 |_=>false
def vj (r:D)(e:R)(k:D->R):IV r e k=bif vi r then k r else e:=by
 cases r<;>try rfl
 exact gZ _ _ _
def mY:∀{vs:List D},vs.all EM=true->dids.didsL vs=[]
 |[],_=>rfl
 |d::r,h=>by
  simp only[List.all_cons,lγ]at h;cases d<;>simp only[EM,Bool.false_eq_true,false_and]at h;simp only[dids.didsL,dids,mY h.2,mκ]
def qV (σ:Nat->Option Nat):∀{vs:List D},vs.all EM=true->mapD.mapDL σ vs=vs
 |[],_=>rfl
 |d::r,h=>by
  simp only[List.all_cons,lγ]at h;cases d<;>simp only[EM,Bool.false_eq_true,false_and]at h;simp only[mapD.mapDL,mapD,qV σ h.2]
def qW (σ:Nat->Option Nat){d:D}(h:vi d=true):mapD σ d=d:=by
 cases d<;>simp only[vi,Bool.false_eq_true]at h
 ·rfl
 ·simp only[mapD,qV σ h]
def qY:∀{vs:List D},vs.all EM=true->vs.map norm=vs
 |[],_=>rfl
 |d::r,h=>by
  simp only[List.all_cons,lγ]at h;cases d<;>simp only[EM,Bool.false_eq_true,false_and]at h;simp only[List.map_cons,norm,qY h.2]
def OG (call:aD)(f:Nat)(args:List D)(e:R)(k:D->R):R:=
 caseO (call f args []) none fun ro=>Prod.rec (motive:=fun _=>R) (fun r out=>List.rec (motive:=fun _=>R) (IV r e k) (fun _ _ _=>e) out) ro
def xD (call:aD)(f:Nat)(raw:Bool)(vs:List D)(hp:List Ob)(e:R)(k:D->R):R:=
 mz vs e fun vs=>OG call f vs e k
def rz {call:aD}{f:Nat}{vs:List D}{len:Nat}(h:vs.all EM=true):fg call f vs [] [] len=match call f vs []with
  |none=>none
  |some (r,out)=>some (mapD (back 0 len [] out.length) r,[],out.map (bS (back 0 len [] out.length))):=by
 unfold fg;rw[qV _ h];rfl
abbrev KF:=D->List Ob->dR->R
section eqs
variable {call:aD} {base kk:Nat} {hp:List Ob} {k:KV}
def xF (hp:List Ob)(n:Nat)(acc:LN):ce hp n [] acc=acc:=by cases n<;>rfl
def Kk {f:Nat}{raw:Bool}{vs:List D}(h:vs.all EM=true):c4 call base (.call f raw) kk vs hp k=match call f vs []with
  |none=>none
  |some (r,out)=>k (mapD (back 0 hp.length [] out.length) r) (grow hp (out.map (bS (back 0 hp.length [] out.length)))):=by
 have hn:bm (.call f raw) vs hp=[]:=by simp only[bm,mY h,xF]
 have ha:(bif raw then vs else vs.map norm)=vs:=by cases raw<;>simp[qY h]
 simp only[c4,hn,List.map_nil,nb,ha,rz h];cases call f vs []<;>rfl
def OH (f:Nat)(raw:Bool)(vs:List D):c4 call base (.call f raw) kk vs hp k=xD call f raw vs hp (c4 call base (.call f raw) kk vs hp k) fun v=>k v hp:=by
 unfold xD;rw[gZ];cases h:vs.all EM
 ·rfl
 ·rw[cond_true,Kk h];unfold OG;cases hc:call f vs []with
  |none=>rfl
  |some p=>
   obtain⟨r,out⟩:=p;cases out with
   |cons o out=>rfl
   |nil=>
    simp only[caseO,vj];cases hr:vi r
    ·rfl
    ·rw[qW _ hr];rfl
end eqs
def xE (call:aD)(f:Nat)(raw:Bool)(vs:List D)(hp:List Ob)(k:KF):R:=
 forceNs (eg hp aZ (dr vs []) []) fun ids=>
  forceDs (fi (hU ids) (Bool.rec (motive:=fun _=>List D) (vs.map norm) vs raw)) fun args=>forceHb (lg ids hp) fun hp'=>
   caseO (call f args hp') none fun ro=>Prod.rec (motive:=fun _=>R) (fun r out=>nW (Nat.ble ids.length out.length)
    (fB (R_ (back ids.length hp.length ids out.length) r) fun v=>forceHb (ll (back ids.length hp.length ids out.length) out) fun out'=>
     forceHb (grow (au hp (ids.zip out')) (out'.drop ids.length)) fun hp2=>k v hp2 ⟨ids,f8 ids hp (ids.zip out'),!(out'.drop ids.length).isEmpty,hp.length⟩) none) ro
variable {kk:Nat}
def Cn {call:aD}{base:Nat}{hp:List Ob}{k:KF}(f:Nat)(raw:Bool)(vs:List D):xE call f raw vs hp k=bif !(dJ (.call f raw))||cT (aI hp (base+kk))then
  match nb call base (.call f raw) kk vs (bm (.call f raw) vs hp) ((bm (.call f raw) vs hp).map (aI hp)) hp.length with
  |none=>none
  |some (v,ups,new)=>k v (grow (au hp ups) new) ⟨bif dJ (.call f raw)then(base+kk)::bm (.call f raw) vs hp else bm (.call f raw) vs hp,f8 (bm (.call f raw) vs hp) hp ups,!new.isEmpty,hp.length⟩
 else none:=by
 have hn:bm (.call f raw) vs hp=ce hp aZ (dids.didsL vs) []:=rfl;simp only[xE,iY,fC,iW,j2,cY,dw,mκ,gC,iz,jf,fm,j4,jN,dJ,nb,fg,hn];have e:(List.map (bS (idx (ce hp aZ (dids.didsL vs) []))) (List.map (aI hp) (ce hp aZ (dids.didsL vs) [])))=bJ (ce hp aZ (dids.didsL vs) []) hp:=by
  simp;rfl
 have e2:(bif raw then vs else List.map norm vs)=Bool.rec (motive:=fun _=>List D) (vs.map norm) vs raw:=by cases raw<;>rfl
 rw[e,e2];cases call f (mapD.mapDL (idx (ce hp aZ (dids.didsL vs) [])) (Bool.rec (motive:=fun _=>List D) (vs.map norm) vs raw)) (bJ (ce hp aZ (dids.didsL vs) []) hp)with
 |none=>rfl
 |some p=>
  simp only[caseO];grind
def H6 (call:aD)(f:Nat)(raw:Bool)(vs:List D)(hp:List Ob)(k:KV):R:=
 xD call f raw vs hp (xE call f raw vs hp fun v hp _=>k v hp) fun v=>k v hp
def OD {call:aD}{base:Nat}{hp:List Ob}{k:KV}(f:Nat)(raw:Bool)(vs:List D):c4 call base (.call f raw) kk vs hp k=H6 call f raw vs hp k:=by
 rw[OH];unfold H6;rw[Cn (base:=base) (kk:=kk)];rfl
def Ė (esz:Nat)(x i:D)(k:D->R):R:=ò esz x i (hT (HN esz [x,i]) k) k
def Ē (off:Nat)(x:D)(k:D->R):R:=ē off x (hT (We off [x]) k) k
def Qk (x:D)(k:D->R):R:=Ql x (hT (nG [x]) k) k
def Zh (kd:Nat)(x:D)(hp:List Ob)(k:D->R):R:=XK kd x (hT (J4 kd [x] (bm (.len kd) [x] hp) ((bm (.len kd) [x] hp).map (aI hp))) k) k
def P3 (x:D)(hp:List Ob)(k:D->R):R:=zQ x hp (hT (fJ 1 false [x] ((dids x).map (aI hp))) k) k
def Vq (o:O)(vs:List D)(hp:List Ob):dR:=⟨bm o vs hp,[],false,hp.length⟩
def Y7 (hp:List Ob):dR:=⟨[],[],false,hp.length⟩
def KS (call:aD)(base:Nat)(o:O)(kk:Nat)(vs:List D)(hp:List Ob)(k:KV):R:=
 match o,vs with
 | .mv,[a]=>k a hp
 | .pick,[c,a,b]=>Qp c a b fun v=>k v hp
 | .bin op,[x,y]=>Sb op x y fun v=>k v hp
 | .un .not,[x]=>XV x fun v=>k v hp
 | .ia esz,[x,i]=>Ė esz x i fun v=>k v hp
 | .ix,[x,i]=>Z5 x i fun v=>k v hp
 | .fa off,[x]=>Ē off x fun v=>k v hp
 | .nilck,[x]=>Qk x fun v=>k v hp
 | .ext i,[x]=>Tq i x fun v=>k v hp
 | .len kd,[x]=>Zh kd x hp fun v=>k v hp
 | .load 1 false,[x]=>P3 x hp fun v=>k v hp
 | .call f raw,vs=>H6 call f raw vs hp k
 | .alloc zs,[]=>yU base kk zs hp k
 | .box n,[d]=>Si base n kk d hp k
 | .store n,[a,d]=>AE call base n kk a d hp k
 | .slStr lo hi,x::xs=>AB lo hi x xs fun v=>k v hp
 | .load n agg,[x]=>Vz n agg x hp fun v=>k v hp
 | .fld off n agg,[x]=>PA off n agg x fun v=>k v hp
 | .build zs ps,vs=>y0 zs ps vs fun v=>k v hp
 | .app esz bytes,[a,b]=>R3 call base esz bytes kk a b hp k
 | .bsl esz z 1 [0],[d]=>Ol call base esz z kk d hp k
 |o,vs=>match kh o with
  |true=>c4 call base o kk vs hp k
  |false=>PF call base o kk vs hp k
def PW (call:aD)(base:Nat)(o:O)(kk:Nat)(vs:List D)(hp:List Ob)(k:KV):KS call base o kk vs hp k=c4 call base o kk vs hp k:=by
 unfold KS;split
 ·rfl
 ·exact(Qs _ _ _).symm
 ·exact(Sf _ _ _).symm
 ·exact(Uk _).symm
 ·exact(Xx _ _ _).symm
 ·exact(XG _ _).symm
 ·exact(Xf _ _).symm
 ·exact(K7 _).symm
 ·exact(Tr _ _).symm
 ·exact(Ub _ _).symm
 ·exact(K5 _).symm
 ·exact(OD _ _ _).symm
 ·exact(J6 _).symm
 ·exact(Sj _ _).symm
 ·exact LH _ _ _ _ _ _ _ _
 ·exact(LC _ _ _ _).symm
 ·exact(P6 _ _ _).symm
 ·exact(Tt _ _ _ _).symm
 ·exact(Kc _ _ _).symm
 ·exact R4 _ _ _ _ _ _ _ _ _
 ·exact On _ _ _ _ _ _ _ _
 ·split
  ·rfl
  ·exact zw _ _ _ _ _ _ _
def zu (call:aD)(base:Nat)(o:O)(kk:Nat)(vs:List D)(hp:List Ob)(k:KF):R:=
 bif !(dJ o)||cT (aI hp (base+kk))then
  match nb call base o kk vs (bm o vs hp) ((bm o vs hp).map (aI hp)) hp.length with
  |none=>none
  |some (v,ups,new)=>k v (grow (au hp ups) new) ⟨bif dJ o then(base+kk)::bm o vs hp else bm o vs hp,f8 (bm o vs hp) hp ups,!new.isEmpty,hp.length⟩
 else none
def Cl (call:aD)(f:Nat)(raw:Bool)(vs:List D)(hp:List Ob)(k:KF):R:=
 xD call f raw vs hp (xE call f raw vs hp k) fun v=>k v hp (Y7 hp)
def OC {call:aD}{base:Nat}{hp:List Ob}{k:KF}(f:Nat)(raw:Bool)(vs:List D):zu call base (.call f raw) kk vs hp k=Cl call f raw vs hp k:=by
 unfold Cl xD;rw[gZ,Cn (base:=base) (kk:=kk)];cases h:vs.all EM
 ·rfl
 ·have hn:bm (.call f raw) vs hp=[]:=by simp only[bm,mY h,xF]
  have ha:(bif raw then vs else vs.map norm)=vs:=by cases raw<;>simp[qY h]
  simp only[zu,hn,List.map_nil,nb,ha,rz h];unfold OG;cases hc:call f vs []with
  |none=>rfl
  |some p=>
   obtain⟨r,out⟩:=p;cases out with
   |cons o out=>rfl
   |nil=>
    simp only[caseO,vj];cases hr:vi r
    ·rfl
    ·rw[qW _ hr];rfl
def uG (call:aD)(base:Nat)(o:O)(kk:Nat)(vs:List D)(hp:List Ob)(k:KF):R:=
 match o with
 | .call f raw=>Cl call f raw vs hp k
 |o=>match kh o with
  |true=>KS call base o kk vs hp fun v hp'=>k v hp' (Vq o vs hp)
  |false=>zu call base o kk vs hp k
def T6 (call:aD)(base:Nat)(o:O)(kk:Nat)(vs:List D)(hp:List Ob)(k:KF):uG call base o kk vs hp k=zu call base o kk vs hp k:=by
 unfold uG;split
 ·exact(OC _ _ _).symm
 ·split
  ·rename_i hs;rw[PW,cC hs];have hq:=rL (call:=call) (base:=base) (kk:=kk) (vs:=vs) (ids:=bm o vs hp) (obs:=(bm o vs hp).map (aI hp)) (len:=hp.length) hs;simp only[zu,rK hs,cond_false];cases ha:nb call base o kk vs (bm o vs hp) ((bm o vs hp).map (aI hp)) hp.length with
   |none=>rfl
   |some e=>
    obtain⟨v,ups,new⟩:=e;have:=hq _ ha;obtain⟨rfl,rfl⟩:=this;rfl
  ·rfl
def zA (d:D)(want:Bool)(t e:R):R:=
 D.rec (motive_1:=fun _=>R) (motive_2:=fun _=>PUnit.{1})
  (fun x=>oR x none (Bool.rec (motive:=fun _=>R) e t want) (Bool.rec (motive:=fun _=>R) t e want))
  (fun _ _=>none) (fun ds _=>List.rec (motive:=fun _=>R) e (fun _ _ _=>none) ds) (fun _ _=>none) (fun _ _ _=>none) (fun _ _=>none) (fun _ _ _ _=>none) (fun _ _ _=>none) (fun _=>none) (fun _ _ _=>none) (fun _ _ _=>none) none ⟨⟩ (fun _ _ _ _=>⟨⟩) d
def PI (d:D)(want:Bool):Option Bool:=
 match d with
 | .p (.bool b)=>some (b==want)
 | .tup []=>some false
 |_=>none
def xS (d:D)(want:Bool)(t e:R):zA d want t e=match PI d want with
  |none=>none
  |some true=>t
  |some false=>e:=by
 cases d<;>try rfl
 ·rename_i x;cases x<;>try rfl
  rename_i b;cases b<;>cases want<;>rfl
 ·rename_i ds;cases ds<;>rfl
def pm {x:ek}(tm:Tm)(h:x.gd=none):c7 x tm=some true:=by simp[c7,h]
def pn {x:ek}(tm:Tm){g:Nat}{w:Bool}(h:x.gd=some (g,w)):c7 x tm=PI (get tm g) w:=by
 unfold c7;rw[h];rfl
def gG (d:D)(want:Bool)(run:KV->R)(hp:List Ob)(k:KV):R:=zA d want (run k) (k (.tup []) hp)
def gF (d:D)(want:Bool)(run:KF->R)(hp:List Ob)(k:KF):R:=zA d want (run k) (k (.tup []) hp ⟨[],[],false,0⟩)
def Yn (gd:Option (Nat×Bool))(tm:Tm)(run:KV->R)(hp:List Ob)(k:KV):R:=
 match gd with
 |none=>run k
 |some (g,w)=>gG (mi tm g) w run hp k
def Ym (gd:Option (Nat×Bool))(tm:Tm)(run:KF->R)(hp:List Ob)(k:KF):R:=
 match gd with
 |none=>run k
 |some (g,w)=>gF (mi tm g) w run hp k
def pD (tm:Tm)(as:List A):List D:=List.rec (motive:=fun _=>List D) [] (fun a _ ih=>To tm a::ih) as
def zT (tm:Tm):∀as,pD tm as=as.map (ev tm)
 |[]=>rfl
 |a::r=>by
  show To tm a::pD tm r=_;rw[Pq,zT tm r];rfl
def zC (call:aD)(base:Nat)(ops:List ek):Tm->List Ob->K->R:=
 List.rec (motive:=fun _=>Tm->List Ob->K->R) (fun tm hp k=>k tm hp)
  (fun x _ ih tm hp k=>Yn x.gd tm (fun k=>KS call base x.op x.k (pD tm x.as) hp k) hp fun v hp=>ih (put x.dst v tm) hp k) ops
def Iw (call:aD)(base:Nat):∀(ops:List ek) (tm:Tm) (hp:List Ob) (k:K),zC call base ops tm hp k=match jz call base ops ⟨tm,hp⟩with
  |none=>none
  |some st=>k st.tm st.hp
 |[],tm,hp,k=>rfl
 |x::r,tm,hp,k=>by
  have step:∀v hp',zC call base r (put x.dst v tm) hp' k=match jz call base r ⟨put x.dst v tm,hp'⟩with
   |none=>none
   |some st=>k st.tm st.hp:=fun v hp'=>Iw call base r _ _ _
  have run:(KS call base x.op x.k (pD tm x.as) hp fun v hp=>zC call base r (put x.dst v tm) hp k)=match (match nf call base x ⟨tm,hp⟩with
    |none=>none
    |some (st',_)=>jz call base r st')with
   |none=>none
   |some st=>k st.tm st.hp:=by
   rw[PW,zT];simp only[c4,nf,UY,Qj];grind
  show Yn x.gd tm (fun k=>KS call base x.op x.k (pD tm x.as) hp k) hp (fun v hp=>zC call base r (put x.dst v tm) hp k)=_;simp only[jz,Yn];cases hg:x.gd with
  |none=>rw[pm tm hg];exact run
  |some p=>
   rw[pn tm hg];simp only[gG,xS,fq];grind
def pq (call:aD)(base:Nat)(ops:List ek):Tm->List Ob->List dR->(Tm->List Ob->List dR->R)->R:=
 List.rec (motive:=fun _=>Tm->List Ob->List dR->(Tm->List Ob->List dR->R)->R) (fun tm hp fs k=>k tm hp fs.reverse)
  (fun x _ ih tm hp fs k=>Ym x.gd tm (fun k=>uG call base x.op x.k (pD tm x.as) hp k) hp fun v hp f=>ih (put x.dst v tm) hp (f::fs) k) ops
def CX (call:aD)(base:Nat):∀(ops:List ek) (tm:Tm) (hp:List Ob) (fs:List dR) (k:Tm->List Ob->List dR->R),pq call base ops tm hp fs k=match eh call base ops ⟨tm,hp⟩ fs with
  |none=>none
  |some (st,fs)=>k st.tm st.hp fs
 |[],tm,hp,fs,k=>rfl
 |x::r,tm,hp,fs,k=>by
  have step:∀v hp' f,pq call base r (put x.dst v tm) hp' (f::fs) k=match eh call base r ⟨put x.dst v tm,hp'⟩ (f::fs)with
   |none=>none
   |some (st,fs)=>k st.tm st.hp fs:=fun v hp' f=>CX call base r _ _ _ _
  have run:(uG call base x.op x.k (pD tm x.as) hp fun v hp f=>pq call base r (put x.dst v tm) hp (f::fs) k)=match (match nf call base x ⟨tm,hp⟩with
    |none=>none
    |some (st',f)=>eh call base r st' (f::fs))with
   |none=>none
   |some (st,fs)=>k st.tm st.hp fs:=by
   rw[T6,zT];simp only[zu,nf,UY,Qj];grind
  show Ym x.gd tm (fun k=>uG call base x.op x.k (pD tm x.as) hp k) hp (fun v hp f=>pq call base r (put x.dst v tm) hp (f::fs) k)=_;simp only[eh,Ym];cases hg:x.gd with
  |none=>rw[pm tm hg];exact run
  |some p=>
   rw[pn tm hg];simp only[gF,xS,fq];grind
end
abbrev Sem:=aD->Nat->Nat->Tm->List Ob->K->(Nat->K)->K->R
noncomputable section
def H9 (d:D)(t e:R):R:=ge d none fun x=>oR x none t e
def iZ (out:LN)(tm:Tm):Tm:=List.rec (motive:=fun _=>Tm) .nil (fun s _ ih=> .cons s (mi tm s) ih) out
def uH (tm:Tm):∀out,iZ out tm=eS out id tm
 |[]=>rfl
 |s::r=>by
  show Tm.cons s (mi tm s) (iZ r tm)=_;rw[fq,uH tm r];rfl
def pk (nal:Nat)(hp:List Ob):List Ob:=Nat.rec (motive:=fun _=>List Ob) hp (fun n _=>grow hp (List.replicate (n+1) .unborn)) nal
def CQ (nal:Nat)(hp:List Ob):pk nal hp=grow hp (List.replicate nal .unborn):=by cases nal<;>rfl
def zq (d:D)(e:R)(k:D->R):R:=
 D.rec (motive_1:=fun _=>R) (motive_2:=fun _=>PUnit.{1})
  (fun x=>ŧ x fun x=>k (.p x)) (fun _ _=>e) (fun _ _=>e) (fun _ _=>e) (fun _ _ _=>e) (fun x off=>k (.ip x off))
  (fun _ _ _ _=>e) (fun g z es=>k (.sl g z es)) (fun _=>e) (fun _ _ _=>e) (fun _ _ _=>e) (k .junk) ⟨⟩ (fun _ _ _ _=>⟨⟩) d
def jM:D->Bool
 | .p _=>true
 | .ip _ _=>true
 | .sl _ _ _=>true
 | .junk=>true
 |_=>false
def KK (d:D)(e:R)(k:D->R):zq d e k=bif jM d then k d else e:=by
 cases d<;>try rfl
 simp only[zq,nT,jM,cond_true]
def Aj (live:LN)(tm:Tm)(e:R)(k:Tm->R):R:=
 List.rec (motive:=fun _=>(Tm->R)->R) (fun k=>k .nil) (fun s _ ih k=>zq (mi tm s) e fun d=>ih fun r=>k (.cons s d r)) live k
def yk (tm:Tm)(e:R):∀(live:LN) (k:Tm->R),Aj live tm e k=bif live.all (fun s=>jM (get tm s))then k (eS live id tm)else e
 |[],k=>rfl
 |s::r,k=>by
  show zq (mi tm s) e (fun d=>Aj r tm e fun r=>k (.cons s d r))=_;rw[KK,yk tm e r,fq];simp only[eS,id];grind
def Xj (m:Nat)(g:Gh)(tm:Tm)(hp:List Ob)(k:K):R:=caseO (dU m g ⟨tm,hp⟩) none fun st=>forceTm st.tm fun tm=>forceHb st.hp fun hp=>k tm hp
def PG (m:Nat)(g:Gh)(tm:Tm)(hp:List Ob)(k:K):Xj m g tm hp k=caseO (dU m g ⟨tm,hp⟩) none fun st=>k st.tm st.hp:=by
 unfold Xj;congr 1;funext st;rw[nU,iW]
def zP (live:LN)(tm:Tm)(ws:LN):LN:=List.rec (motive:=fun _=>LN) ws (fun s _ ih=>xH (mi tm s) ih) live
def uO (tm:Tm)(ws:LN):∀live,zP live tm ws=dids.didsL (live.map (get tm))++ws
 |[]=>rfl
 |s::r=>by
  show xH (mi tm s) (zP r tm ws)=_;rw[oW,uO tm ws r,fq];simp only[List.map_cons,dids.didsL,mξ]
def zD (f:D->D)(live:LN)(tm:Tm):Tm:=List.rec (motive:=fun _=>Tm) .nil (fun s _ ih=> .cons s (f (mi tm s)) ih) live
def uK (f:D->D)(tm:Tm):∀live,zD f live tm=eS live f tm
 |[]=>rfl
 |s::r=>by
  show Tm.cons s (f (mi tm s)) (zD f r tm)=_;rw[fq,uK f tm r];rfl
def xV (m:Nat)(live:LN)(tm:Tm)(hp:List Ob)(k:K):R:=
 forceNs (eg hp aZ (zP live tm (gO m hp)) (List.range m)) fun ids=>
  forceTm (zD (R_ (hU ids)) live tm) fun tm=>forceHb (lg ids hp) fun hp=>k tm hp
def uJ (m:Nat)(live:LN)(tm:Tm)(hp:List Ob)(k:K):xV m live tm hp k=caseO (dU m (.keep live) ⟨tm,hp⟩) none fun st=>k st.tm st.hp:=by
 simp only[xV,iY,nU,iW,cY,uO,gD,uK,jf,iz,dU,caseO];have:∀ids,R_ (idx ids)=mapD (idx ids):=fun ids=>funext fun d=>fm _ d
 simp_all
def PY (m:Nat)(live:LN)(tm:Tm)(hp:List Ob)(k:K):R:=
 List.rec (motive:=fun _=>R) (Nat.rec (motive:=fun _=>R) (Aj live tm (xV m live tm hp k) fun tm=>k tm []) (fun _ _=>xV m live tm hp k) m) (fun _ _ _=>xV m live tm hp k) hp
def Dp (σ:Nat->Option Nat){d:D}(h:jM d=true):mapD σ d=d:=by
 cases d<;>simp_all [jM,mapD]
def Cv {d:D}(h:jM d=true):dids d=[]:=by
 cases d<;>simp_all [jM,dids]
def oX:∀{ds:List D},ds.all jM=true->dids.didsL ds=[]
 |[],_=>rfl
 |d::r,h=>by
  simp only[List.all_cons,lγ]at h;simp only[dids.didsL,Cv h.1,oX h.2,mκ]
def np (σ:Nat->Option Nat)(tm:Tm):∀{live:LN},live.all (fun s=>jM (get tm s))=true->eS live (mapD σ) tm=eS live id tm
 |[],_=>rfl
 |s::r,h=>by
  simp only[List.all_cons,lγ]at h;simp only[eS,Dp σ h.1,np σ tm h.2,id]
def PZ (m:Nat)(live:LN)(tm:Tm)(hp:List Ob)(k:K):PY m live tm hp k=caseO (dU m (.keep live) ⟨tm,hp⟩) none fun st=>k st.tm st.hp:=by
 cases hp with
 |cons o r=>exact uJ _ _ _ _ _
 |nil=>
  cases m with
  |succ m=>exact uJ _ _ _ _ _
  |zero=>
   show Aj live tm (xV 0 live tm [] k) (fun tm=>k tm [])=_;rw[yk,uJ];cases h:live.all (fun s=>jM (get tm s))
   ·rfl
   ·have hd:dids.didsL (live.map (get tm))=[]:=oX (by simp_all);simp only[dU,hd,caseO];rw[np _ tm h];rfl
def xY (m:Nat)(live:LN)(body:Tm->List Ob->K->R)(ei:Nat)(tm:Tm)(hp:List Ob):R:=
 Nat.rec (motive:=fun _=>Tm->List Ob->R) (fun _ _=>none) (fun _ ih tm hp=>PY m live tm hp fun tm hp=>body tm hp ih) ei tm hp
def VD:Sem:=fun _ _ _ tm hp kn _ _=>kn tm hp
def Zx:Sem:=fun _ _ _ tm hp _ _ kr=>kr tm hp
def Vn (id:Nat):Sem:=fun _ _ _ tm hp _ ke _=>ke id tm hp
def ă (a b:Sem):Sem:=fun c n m tm hp kn ke kr=>a c n m tm hp (fun tm hp=>b c n m tm hp kn ke kr) ke kr
def YK (x:A)(t e:Sem):Sem:=fun c n m tm hp kn ke kr=>H9 (To tm x) (t c n m tm hp kn ke kr) (e c n m tm hp kn ke kr)
def Wt (id:Nat)(b:Sem):Sem:=fun c n m tm hp kn ke kr=>b c n m tm hp kn (fun i tm hp=>nW (Nat.beq i id) (kn tm hp) (ke i tm hp)) kr
def Zj (live:LN)(b:Sem):Sem:=fun c n m tm hp _ ke kr=>xY m live (fun tm hp k=>b c n m tm hp k ke kr) n tm hp
def ni (m:Nat)(g:Gh)(k:K):K:=match GL g with|some h=>fun tm hp=>Xj m h tm hp k|none=>k
def ı (g:Gh)(b:Sem):Sem:=fun c n m tm hp kn ke kr=>Xj m g tm hp fun tm hp=>b c n m tm hp (ni m g kn) (fun i=>ni m g (ke i)) (ni m g kr)
def ā (nal:Nat)(f:aD->Nat->Tm->List Ob->K->R):Sem:=fun c _ _ tm hp kn _ _=>f c hp.length tm (pk nal hp) kn
def Ā (nal:Nat)(ps:List (Nat×Nat))(f:aD->Nat->Tm->List Ob->(Tm->List Ob->List dR->R)->R):Sem:=fun c _ _ tm hp kn _ _=>f c hp.length tm (pk nal hp) fun tm hp fs=>nW (eQ fs ps) (kn tm hp) none
def Zv (nal:Nat)(ops:List ek)(prs:Option (List (Nat×Nat)))(out:LN):Sem:=
 match prs with
 |none=>ā nal fun call base tm hp k=>zC call base ops tm hp fun tm hp=>k (iZ out tm) hp
 |some ps=>Ā nal ps fun call base tm hp k=>pq call base ops tm hp [] fun tm hp fs=>k (iZ out tm) hp fs
def Ks (c:Co):Sem:=
 Co.rec (motive:=fun _=>Sem) VD (fun nal ops prs out=>Zv nal ops prs out) (fun _ _ a b=>ă a b) (fun c _ _ t e=>YK c t e) (fun id _ b=>Wt id b) (fun live _ b=>Zj live b) (fun id=>Vn id) Zx (fun g _ c=>ı g c) c
def qZ (r:Option (Ex×St))(kn:K)(ke:Nat->K)(kr:K):R:=
 match r with
 |none=>none
 |some (.norm,st)=>kn st.tm st.hp
 |some (.exit i,st)=>ke i st.tm st.hp
 |some (.ret,st)=>kr st.tm st.hp
def Dm {m:Nat}{live:LN}{body:St->Option (Ex×St)}{bodyK:Tm->List Ob->K->(Nat->K)->K->R}{ke:Nat->K}{kr kn:K}(hb:∀tm hp kn,bodyK tm hp kn ke kr=qZ (body ⟨tm,hp⟩) kn ke kr):∀(ei:Nat) (tm:Tm) (hp:List Ob),xY m live (fun tm hp k=>bodyK tm hp k ke kr) ei tm hp=qZ (qU m body live ei ⟨tm,hp⟩) kn ke kr
 |0,tm,hp=>rfl
 |n+1,tm,hp=>by
  show PY m live tm hp (fun tm hp=>bodyK tm hp (xY m live (fun tm hp k=>bodyK tm hp k ke kr) n) ke kr)=_;rw[PZ];simp only[qU];cases dU m (.keep live) ⟨tm,hp⟩with
  |none=>rfl
  |some st=>
   show bodyK st.tm st.hp (xY m live (fun tm hp k=>bodyK tm hp k ke kr) n) ke kr=_;rw[hb];show qZ (body st) _ ke kr=qZ (match body st with
    |some (.norm,st')=>qU m body live n st'
    |r=>r) kn ke kr
   cases body st with
   |none=>rfl
   |some p=>
    obtain⟨ex,st'⟩:=p;cases ex with
    |norm=>exact Dm hb n _ _
    |exit i=>rfl
    |ret=>rfl
def Us (m:Nat)(g:Gh)(o:Option (Ex×St))(kn:K)(ke:Nat->K)(kr:K):qZ o (ni m g kn) (fun i=>ni m g (ke i)) (ni m g kr)=qZ (vh m g o) kn ke kr:=by
 unfold ni vh;cases GL g with
 |none=>rfl
 |some h=>
  cases o with
  |none=>rfl
  |some p=>
   obtain⟨ex,st⟩:=p;cases ex<;>simp only[qZ,PG]<;>cases dU m h st<;>rfl
def lX (call:aD)(ei m:Nat):∀(c:Co) (tm:Tm) (hp:List Ob) (kn:K) (ke:Nat->K) (kr:K),Ks c call ei m tm hp kn ke kr=qZ (bN call ei m c ⟨tm,hp⟩) kn ke kr
 | .skip,tm,hp,kn,ke,kr=>rfl
 | .ret,tm,hp,kn,ke,kr=>rfl
 | .exit i,tm,hp,kn,ke,kr=>rfl
 | .reg nal ops none out,tm,hp,kn,ke,kr=>by
  show zC call hp.length ops tm (pk nal hp) (fun tm hp=>kn (iZ out tm) hp)=_;rw[Iw,CQ];simp only[bN,pe];cases jz call hp.length ops ⟨tm,grow hp (List.replicate nal .unborn)⟩with
  |none=>rfl
  |some st=>simp only[qZ,uH]
 | .reg nal ops (some ps) out,tm,hp,kn,ke,kr=>by
  show pq call hp.length ops tm (pk nal hp) [] (fun tm hp fs=>nW (eQ fs ps) (kn (iZ out tm) hp) none)=_;rw[CX,CQ];simp only[bN,pe];cases eh call hp.length ops ⟨tm,grow hp (List.replicate nal .unborn)⟩ []with
  |none=>rfl
  |some p=>
   obtain⟨st,fs⟩:=p;simp only[jN];cases eQ fs ps
   ·rfl
   ·simp only[qZ,cond_true,uH]
 | .seq a b,tm,hp,kn,ke,kr=>by
  show Ks a call ei m tm hp (fun tm hp=>Ks b call ei m tm hp kn ke kr) ke kr=_;rw[lX call ei m a];simp only[bN];cases bN call ei m a ⟨tm,hp⟩with
  |none=>rfl
  |some p=>
   obtain⟨ex,st⟩:=p;cases ex with
   |norm=>exact lX call ei m b _ _ _ _ _
   |exit i=>rfl
   |ret=>rfl
 | .cond c t e,tm,hp,kn,ke,kr=>by
  show H9 (To tm c) (Ks t call ei m tm hp kn ke kr) (Ks e call ei m tm hp kn ke kr)=_;rw[lX call ei m t,lX call ei m e,Pq];simp only[bN];cases ev tm c<;>try rfl
  rename_i x;cases x<;>try rfl
  rename_i b;cases b<;>rfl
 | .block id b,tm,hp,kn,ke,kr=>by
  show Ks b call ei m tm hp kn (fun i tm hp=>nW (Nat.beq i id) (kn tm hp) (ke i tm hp)) kr=_;rw[lX call ei m b];simp only[bN];cases bN call ei m b ⟨tm,hp⟩with
  |none=>rfl
  |some p=>
   obtain⟨ex,st⟩:=p;cases ex with
   |norm=>rfl
   |ret=>rfl
   |exit i=>
    simp only[qZ,jN];cases Nat.beq i id<;>rfl
 | .loop live b,tm,hp,kn,ke,kr=>Dm (fun tm hp kn=>lX call ei m b tm hp kn ke kr) ei tm hp
 | .gh g c,tm,hp,kn,ke,kr=>by
  show Xj m g tm hp (fun tm hp=>Ks c call ei m tm hp (ni m g kn) (fun i=>ni m g (ke i)) (ni m g kr))=_;rw[PG];simp only[bN];cases dU m g ⟨tm,hp⟩with
  |none=>rfl
  |some st=>exact(lX call ei m c _ _ _ _ _).trans (Us m g _ kn ke kr)
def xP (hp:List Ob):∀{ds:List D},ds.all EM=true->aa3 hp ds=(ds,hp)
 |[],_=>rfl
 |d::r,h=>by
  simp only[List.all_cons,lγ]at h;cases d<;>simp only[EM,Bool.false_eq_true,false_and]at h;have e:aa3 hp r=(r,hp):=xP hp h.2;simp only[aa3,dids,List.map_nil,pur,dh,au,e]
def KJ (m:Nat)(ds:List D)(hp:List Ob):R:=
 forceNs (eg hp aZ (dr ds (gO m hp)) (List.range m)) fun ids=>mg (R_ (hU ids) (one ds)) fun r=>forceHb (lg ids hp) fun out=>some (r,out)
def KI (m:Nat)(fz:Bool)(ds:List D)(hp:List Ob):R:=
 mz ds (Bool.rec (motive:=fun _=>R) (KJ m ds hp) (Prod.rec (motive:=fun _=>R) (fun ds hp=>KJ m ds hp) (aa3 hp ds)) fz)
  fun ds=>Nat.rec (motive:=fun _=>R) (some (one ds,[])) (fun _ _=>KJ m ds hp) m
def zn (m:Nat)(ds:List D)(hp:List Ob):KJ m ds hp=some (mapD (idx (ce hp aZ (dids.didsL ds++(hp.take m).flatMap gj) (List.range m))) (one ds),bJ (ce hp aZ (dids.didsL ds++(hp.take m).flatMap gj) (List.range m)) hp):=by
 simp only[KJ,iY,KM,iW,cY,dw,gD,fm,iz,jf]
def sH (m:Nat)(fz:Bool)(ds:List D)(hp:List Ob):KI m fz ds hp=some (ji m fz ds hp):=by
 unfold KI;rw[gZ];cases h:ds.all EM
 ·cases fz with
  |false=>exact zn m ds hp
  |true=>
   simp;exact zn _ _ _
 ·have e:(bif fz then aa3 hp ds else(ds,hp))=(ds,hp):=by cases fz<;>simp[xP hp h]
  cases m with
  |succ m=>
   show KJ (m+1) ds hp=_;rw[zn];simp only[ji,e]
  |zero=>
   have hp1:vi (one ds)=true:=by
    unfold one;split
    ·rename_i d;cases d<;>simp_all [EM,vi]
    ·exact h
   simp only[ji,e,mY h,List.range_zero];rw[qW _ hp1];rfl
def ZC (tm:Tm)(hp:List Ob)(r:Rv)(k:D->R):R:=
 Rv.rec (motive:=fun _=>R) (fun n=>k (mi tm n)) (fun a n agg=>D.rec (motive_1:=fun _=>R) (motive_2:=fun _=>PUnit.{1})
  (fun _=>none) (fun _ _=>none) (fun _ _=>none) (fun id off=>jw (DA hp id) none fun cs=>Hc cs off n fun ds=>og agg ds k) (fun _ _ _=>none) (fun _ _=>none) (fun _ _ _ _=>none) (fun _ _ _=>none) (fun _=>none) (fun _ _ _=>none) (fun _ _ _=>none) none ⟨⟩ (fun _ _ _ _=>⟨⟩) (mi tm a)) r
def X7 (tm:Tm)(hp:List Ob)(r:Rv)(k:D->R):ZC tm hp r k=caseO (CG ⟨tm,hp⟩ r) none k:=by
 cases r with
 |t n=>simp only[ZC,CG,fq,caseO]
 |cell a n agg=>
  simp only[ZC,CG,fq,jQ,pY,j8];cases get tm a<;>try rfl
  rename_i id off;have:aI hp id=hp.getD id .dead:=rfl;simp only[this];cases hp.getD id .dead<;>try rfl
  rename_i cs;simp only[jw];cases sub cs off n<;>rfl
def Lv (tm:Tm)(hp:List Ob)(rs:List Rv)(k:List D->R):R:=
 List.rec (motive:=fun _=>(List D->R)->R) (fun k=>k []) (fun r _ ih k=>ZC tm hp r fun d=>ih fun ds=>k (d::ds)) rs k
def IZ (tm:Tm)(hp:List Ob):∀(rs:List Rv) (k:List D->R),Lv tm hp rs k=caseO (iV ⟨tm,hp⟩ rs) none k
 |[],k=>rfl
 |r::rs,k=>by
  show ZC tm hp r (fun d=>Lv tm hp rs fun ds=>k (d::ds))=_;rw[X7];simp only[IZ tm hp rs,iV];cases CG ⟨tm,hp⟩ r with
  |none=>rfl
  |some d=>
   cases iV ⟨tm,hp⟩ rs<;>rfl
def wJ (b:Sem)(call:aD)(n:Nat)(res:List Rv)(fz:Bool)(args:List D)(hp:List Ob):R:=
 b call n hp.length (ep args 0) hp (fun tm hp'=>Lv tm hp' res fun ds=>KI hp.length fz ds hp') (fun _ _ _=>none) (fun tm hp'=>Lv tm hp' res fun ds=>KI hp.length fz ds hp')
def sY (call:aD)(ei:Nat)(x:Fx)(args:List D)(hp:List Ob):wJ (Ks x.body) call ei x.res x.fz args hp=cw call ei x args hp:=by
 unfold wJ cw mC;simp only[IZ];rw[lX];cases bN call ei hp.length x.body ⟨ep args 0,hp⟩with
 |none=>rfl
 |some p=>
  obtain⟨ex,st⟩:=p;cases ex with
  |norm=>
   simp only[qZ,sH];cases iV st x.res<;>rfl
  |ret=>
   simp only[qZ,sH];cases iV st x.res<;>rfl
  |exit i=>rfl
inductive Hn where
 |code (b:Sem) (res:List Rv) (fz:Bool)
 |prim (g:LD->Option (D×List Ob))
 |both (g:LD->Option (D×List Ob)) (b:Sem) (res:List Rv) (fz:Bool)
 |any (g:List D->List Ob->Option (D×List Ob))
def hn (tab:Option Hn)(ih:aD)(n:Nat)(args:List D)(hp:List Ob):R:=
 Option.rec (motive:=fun _=>R) none (fun h=>Hn.rec (motive:=fun _=>R) (fun b res fz=>wJ b ih n res fz args hp) (fun g=>match gT args with
   |some xs=>match hp with
    |[]=>g xs
    |_=>none
   |none=>none) (fun g b res fz=>match gT args with
   |some xs=>match hp with
    |[]=>g xs
    |_=>wJ b ih n res fz args hp
   |none=>wJ b ih n res fz args hp) (fun g=>g args hp) h) tab
def F0 (tab:Nat->Option Hn)(n:Nat):aD:=
 Nat.rec (motive:=fun _=>aD) (fun _ _ _=>none) (fun n ih f args hp=>hn (tab f) ih n args hp) n
def same (a:Option Hn)(b:Option Fn):Prop:=
 match a,b with
 |none,none=>True
 |some (.code g res fz),some (.code x)=>Ks x.body=g/\x.res=res/\x.fz=fz
 |some (.prim g),some (.prim h)=>g=h
 |some (.both g b res fz),some (.both h x)=>g=h/\Ks x.body=b/\x.res=res/\x.fz=fz
 |some (.any g),some (.any h)=>g=h
 |_,_=>False
def Ps {tabH:Nat->Option Hn}{tab:Nat->Option Fn}(h:∀f,same (tabH f) (tab f)):∀n,F0 tabH n=evFn tab n
 |0=>by rfl
 |n+1=>by
  funext f args hp
  show hn (tabH f) (F0 tabH n) n args hp=_;rw[Ps h n];have hf:=h f;simp only[evFn,XI];cases h1:tabH f with
  |none=>
   rw[h1]at hf;cases h2:tab f with
   |none=>rfl
   |some x=>rw[h2]at hf;cases x<;>exact hf.elim
  |some a=>
   rw[h1]at hf;cases h2:tab f with
   |none=>rw[h2]at hf;cases a<;>exact hf.elim
   |some x=>
    rw[h2]at hf;cases a with
    |code g res fz=>
     cases x with
     |code x=>
      obtain⟨h3,rfl,rfl⟩:=hf;show wJ g (evFn tab n) n x.res x.fz args hp=_;rw[<-h3,sY]
     |prim q=>exact hf.elim
     |both q x=>exact hf.elim
     |any q=>exact hf.elim
    |prim g=>
     cases x with
     |code x=>exact hf.elim
     |prim q=>obtain rfl:g=q:=hf;rfl
     |both q x=>exact hf.elim
     |any q=>exact hf.elim
    |both g b res fz=>
     cases x with
     |code x=>exact hf.elim
     |prim q=>exact hf.elim
     |both q x=>
      obtain⟨rfl,h3,rfl,rfl⟩:=hf;show(match gT args with
       |some xs=>match hp with
        |[]=>g xs
        |_=>wJ b (evFn tab n) n x.res x.fz args hp
       |none=>wJ b (evFn tab n) n x.res x.fz args hp)=_
      rw[<-h3,sY];rfl
     |any q=>exact hf.elim
    |any g=>
     cases x with
     |code x=>exact hf.elim
     |prim q=>exact hf.elim
     |both q x=>exact hf.elim
     |any q=>obtain rfl:g=q:=hf;rfl
def T2 (b:Bool)(x y:Option Hn):Option Hn:=Bool.rec (motive:=fun _=>Option Hn) y x b
def Ż {b:Bool}{x y:Option Hn}{x' y':Option Fn}(h:same x x')(k:same y y'):same (T2 b x y) (bif b then x' else y'):=by
 cases b
 ·exact k
 ·exact h
end
section
def nI (a b:Bool):Bool:=Bool.rec (motive:=fun _=>Bool) false b a
def oI (a b:Bool):nI a b=(a&&b):=by cases a<;>rfl
def ZO (y:Da)(k:IntKind->Int->Bool):Bool:=
 Da.rec (motive_1:=fun _=>Bool) (motive_2:=fun _=>PUnit.{1}) (fun _=>false) (fun i n=>k i n) (fun _=>false) (fun _ _=>false) (fun _ _ _=>false) false (fun _ _=>false) (fun _ _ _ _=>false) false (fun _ _ _=>false) false (fun _ _ _=>false) false (fun _ _ _=>false) (fun _ _=>false) ⟨⟩ (fun _ _ _ _=>⟨⟩) y
def ZQ (y:Da)(k:LN->Bool):Bool:=
 Da.rec (motive_1:=fun _=>Bool) (motive_2:=fun _=>PUnit.{1}) (fun _=>false) (fun _ _=>false) (fun s=>k s) (fun _ _=>false) (fun _ _ _=>false) false (fun _ _=>false) (fun _ _ _ _=>false) false (fun _ _ _=>false) false (fun _ _ _=>false) false (fun _ _ _=>false) (fun _ _=>false) ⟨⟩ (fun _ _ _ _=>⟨⟩) y
def ZN (y:Da)(k:LD->Bool):Bool:=
 Da.rec (motive_1:=fun _=>Bool) (motive_2:=fun _=>PUnit.{1}) (fun _=>false) (fun _ _=>false) (fun _=>false) (fun cs _=>k cs) (fun _ _ _=>false) false (fun _ _=>false) (fun _ _ _ _=>false) false (fun _ _ _=>false) false (fun _ _ _=>false) false (fun _ _ _=>false) (fun _ _=>false) ⟨⟩ (fun _ _ _ _=>⟨⟩) y
def QZ (y:Da)(k:Nat->LD->Bool):Bool:=
 Da.rec (motive_1:=fun _=>Bool) (motive_2:=fun _=>PUnit.{1}) (fun _=>false) (fun _ _=>false) (fun _=>false) (fun _ _=>false) (fun z es _=>k z es) false (fun _ _=>false) (fun _ _ _ _=>false) false (fun _ _ _=>false) false (fun _ _ _=>false) false (fun _ _ _=>false) (fun _ _=>false) ⟨⟩ (fun _ _ _ _=>⟨⟩) y
def I9 (y:Da)(k:Nat->LD->Bool):Bool:=
 Da.rec (motive_1:=fun _=>Bool) (motive_2:=fun _=>PUnit.{1}) (fun _=>false) (fun _ _=>false) (fun _=>false) (fun _ _=>false) (fun _ _ _=>false) false (fun _ _=>false) (fun _ _ _ _=>false) false (fun _ _ _=>false) false (fun _ _ _=>false) false (fun z es _=>k z es) (fun _ _=>false) ⟨⟩ (fun _ _ _ _=>⟨⟩) y
def Pm (m n:Int):Bool:=Int.rec (motive:=fun _=>Bool) (fun a=>Int.rec (motive:=fun _=>Bool) (fun b=>Nat.beq a b) (fun _=>false) n) (fun a=>Int.rec (motive:=fun _=>Bool) (fun _=>false) (fun b=>Nat.beq a b) n) m
def Th {m n:Int}(h:Pm m n=true):m=n:=by
 cases m<;>cases n<;>simp only[Pm,Bool.false_eq_true]at h;all_goals simp_all
def CD:∀{a b:LN},cg a b=true->a=b
 |[],[],_=>rfl
 |[],_::_,h=>by simp[cg]at h
 |_::_,[],h=>by simp[cg]at h
 |x::a,y::b,h=>by
  simp only[cg]at h;cases hx:Nat.beq x y
  ·simp_all
  ·simp only[hx,cond_true]at h;rw[lθ hx,CD h]
def Tg (x:Da):Da->Bool:=
 Da.rec (motive_1:=fun _=>Da->Bool) (motive_2:=fun _=>LD->Bool)
  (fun _ _=>false) (fun i n y=>ZO y fun j m=>nI (Nat.beq (kc i) (kc j)) (Pm n m)) (fun s y=>ZQ y fun t=>FZ s t) (fun _ ih y=>ZN y ih) (fun z _ ih y=>QZ y fun z' es'=>nI (Nat.beq z z') (ih es'))
  (fun _=>false) (fun _ _ _=>false) (fun _ _ _ _ _=>false) (fun _=>false) (fun _ _ _ _=>false) (fun _=>false) (fun _ _ _ _=>false) (fun _=>false) (fun z _ ih y=>I9 y fun z' es'=>nI (Nat.beq z z') (ih es')) (fun _ _ _=>false)
  (fun ys=>List.rec (motive:=fun _=>Bool) true (fun _ _ _=>false) ys) (fun _ _ ihd ihr ys=>List.rec (motive:=fun _=>Bool) false (fun y ys _=>nI (ihd y) (ihr ys)) ys) x
def CB (xs:LD):LD->Bool:=
 List.rec (motive:=fun _=>LD->Bool) (fun ys=>List.rec (motive:=fun _=>Bool) true (fun _ _ _=>false) ys) (fun x _ ih ys=>List.rec (motive:=fun _=>Bool) false (fun y ys _=>nI (Tg x y) (ih ys)) ys) xs
mutual
def Ij:∀(x y:Da),Tg x y=true->x=y
 | .bool _,y,h=>absurd (show false=true from h) Bool.false_ne_true
 | .int i n,y,h=>by
  cases y<;>try exact absurd (show false=true from h) Bool.false_ne_true
  rename_i j m;have h':nI (Nat.beq (kc i) (kc j)) (Pm n m)=true:=h;rw[oI,PX,lγ,lδ]at h';rw[h'.1,Th h'.2]
 | .str s,y,h=>by
  cases y<;>try exact absurd (show false=true from h) Bool.false_ne_true
  rename_i t;have h':FZ s t=true:=h;rw[zi]at h';rw[CD h']
 | .agg cs,y,h=>by
  cases y<;>try exact absurd (show false=true from h) Bool.false_ne_true
  rename_i cs';rw[sG cs cs' h]
 | .slice z es,y,h=>by
  cases y<;>try exact absurd (show false=true from h) Bool.false_ne_true
  rename_i z' es';have h':nI (Nat.beq z z') _=true:=h;rw[oI,lγ]at h';rw[lθ h'.1,sG es es' h'.2]
 | .nilptr,y,h=>absurd (show false=true from h) Bool.false_ne_true
 | .ptr _,y,h=>absurd (show false=true from h) Bool.false_ne_true
 | .map _ _,y,h=>absurd (show false=true from h) Bool.false_ne_true
 | .nilmap,y,h=>absurd (show false=true from h) Bool.false_ne_true
 | .fn _ _,y,h=>absurd (show false=true from h) Bool.false_ne_true
 | .nilfn,y,h=>absurd (show false=true from h) Bool.false_ne_true
 | .iface _ _,y,h=>absurd (show false=true from h) Bool.false_ne_true
 | .nilif,y,h=>absurd (show false=true from h) Bool.false_ne_true
 | .sliceE z es,y,h=>by
  cases y<;>try exact absurd (show false=true from h) Bool.false_ne_true
  rename_i z' es';have h':nI (Nat.beq z z') _=true:=h;rw[oI,lγ]at h';rw[lθ h'.1,sG es es' h'.2]
 | .sym _ _,y,h=>absurd (show false=true from h) Bool.false_ne_true
def sG:∀(xs ys:LD),Da.rec_1 (motive_1:=fun _=>Da->Bool) (motive_2:=fun _=>LD->Bool)
  (fun _ _=>false) (fun i n y=>ZO y fun j m=>nI (Nat.beq (kc i) (kc j)) (Pm n m)) (fun s y=>ZQ y fun t=>FZ s t) (fun _ ih y=>ZN y ih) (fun z _ ih y=>QZ y fun z' es'=>nI (Nat.beq z z') (ih es'))
  (fun _=>false) (fun _ _ _=>false) (fun _ _ _ _ _=>false) (fun _=>false) (fun _ _ _ _=>false) (fun _=>false) (fun _ _ _ _=>false) (fun _=>false) (fun z _ ih y=>I9 y fun z' es'=>nI (Nat.beq z z') (ih es')) (fun _ _ _=>false)
  (fun ys=>List.rec (motive:=fun _=>Bool) true (fun _ _ _=>false) ys) (fun _ _ ihd ihr ys=>List.rec (motive:=fun _=>Bool) false (fun y ys _=>nI (ihd y) (ihr ys)) ys) xs ys=true->xs=ys
 |[],[],_=>rfl
 |[],_::_,h=>by cases h
 |_::_,[],h=>by cases h
 |x::xs,y::ys,h=>by
  have h':nI (Tg x y) _=true:=h;rw[oI,lγ]at h';rw[Ij x y h'.1,sG xs ys h'.2]
end
def CC:∀{xs ys:LD},CB xs ys=true->xs=ys
 |[],[],_=>rfl
 |[],_::_,h=>by cases h
 |_::_,[],h=>by cases h
 |x::xs,y::ys,h=>by
  have h':nI (Tg x y) (CB xs ys)=true:=h;rw[oI,lγ]at h';rw[Ij x y h'.1,CC h'.2]
def memo (l:List (LD×R))(xs:LD):R:=
 List.rec (motive:=fun _=>R) none (fun p _ ih=>Bool.rec (motive:=fun _=>R) ih p.2 (CB p.1 xs)) l
def Dq:∀{l:List (LD×R)} {xs:LD} {ro:D×List Ob},memo l xs=some ro->∃p∈l,p.1=xs/\p.2=some ro
 |[],xs,ro,h=>by cases h
 |p::l,xs,ro,h=>by
  have h':Bool.rec (motive:=fun _=>R) (memo l xs) p.2 (CB p.1 xs)=some ro:=h;cases he:CB p.1 xs
  ·rw[he]at h';obtain⟨q,h1,h2⟩:=Dq (l:=l) h';grind
  ·rw[he]at h';exact⟨p,lυ ..,CC he,h'⟩
variable [Letters]
def yc (l:List (LD×R))(call:aD)(f:Nat)(xs:LD):R:=
 Option.rec (motive:=fun _=>R) (call f (xs.map .p) []) (fun r=>some r) (memo l xs)
theorem uR {P:Program}{G:bH}{call:aD}(hc:dZ P G call){f:Nat}{l:List (LD×R)}(h:∀p∈l,p.2=none\/call f (p.1.map .p) []=p.2):eB P G f (yc l call f):=by
 intro xs r out hm;have hcall:call f (xs.map .p) []=some (r,out):=by
  unfold yc at hm;cases hq:memo l xs with
  |none=>simp_all
  |some ro=>
   rw[hq]at hm;obtain⟨p,hp,hx,hr⟩:=Dq hq;grind
 obtain⟨c1,c2⟩:=hc f _ [] _ _ hcall;refine⟨c1,fun w S vs hS hg hv=>?_⟩
 exact c2 [] w S vs ⟨rfl,by simp,by rintro b ⟨id,l,o,h,_⟩;simp at h,by simp,hS⟩ hg (Pw.map_left (by simpa only[VR]using hv))
end
def et (n bytes:Nat):Bool:=Nat.ble ((2*(0+n)+192)*bytes) 281474976710656&&Nat.ble (2*(0+n)+192) 9223372036854775807
def Ŭ (z bytes:Nat):LD->Option (D×List Ob)
 |[.slice z' es]=>bif Nat.beq z' z&&et es.length bytes then some (.p (.slice z es),[])else none
 |_=>none
def dH (z bytes:Nat):LD->Option (D×List Ob)
 |[.slice z' es]=>bif Nat.beq z' z&&et es.length bytes then some (.arr 0 0 es.length z,[.arr es])else none
 |_=>none
def xU (n:Int):LN:=(Lib.itoa n).map UInt8.toNat
def ka:LD->Option (D×List Ob)
 |[.int .i64 n]=>bif aL (-9223372036854775808) n&&aL n 9223372036854775807 then some (.p (.str (xU n)),[])else none
 |_=>none
section
variable [Letters]
def pQ {P : Program} {G : bH} {call : aD} (hcall : dZ P G call) (hmix : P.follows .mixedOrders = true) {raw : Nat → Bool} {f ei : Nat} {fn : Func} {x : Fx} (hf : P.funcs[f]? = some fn) (hx : ux P G raw fn x) (hn : (fn.name == "runtime.NumGoroutine") = false)
  {g:LD->Option (D×List Ob)} (h:∀xs r out,g xs=some (r,out)->∃z es,xs=[.slice z es]/\(es=[]->cw call ei x [.sl .na z []] []=some (r,out))/\cw call ei x [.sl .some z es] []=some (r,out)):eB P G f g:=by
 intro xs r out hg;obtain⟨z,es,rfl,h1,h2⟩:=h xs r out hg;refine⟨⟨fn,hf,?_,hn⟩,fun w S vs hS hgr hv=>?_⟩
 ·cases hb:fn.body with
  |none=>obtain⟨h4,_⟩:=hx;simp_all
  |some c=>rfl
 ·obtain⟨v,us,rfl,hv1,hv2⟩:=hv.cons_inv;obtain rfl:=hv2.nil_inv;have hr:HR [] w S []:=⟨rfl,by simp,by rintro b ⟨id,l,o,h,_⟩;simp at h,by simp,hS⟩
  have hv3:=hv1;obtain⟨a,cap,us,rfl,k1,k2,k3⟩:=hv3;cases a with
  |none=>
   have hus:us=[]:=by
    simp_all
   subst hus;have hes:es=[]:=by
    have:=(PRs_iff.1 k2).1;simp_all
   have hvr:VR [] w S (.sl .na z []) (.slice none 0 cap):=by
    exact⟨none,cap,[],rfl,by simp,by rfl,by rfl,by simp⟩
   exact PB hcall hmix hf hx (h1 hes) hr hgr (Pw.cons hvr Pw.nil)
  |some a=>
   have hvr:VR [] w S (.sl .some z es) (.slice (some a) us.length cap):=by
    exact⟨some a,cap,us,rfl,k1,by simp[fN],k2,k3⟩
   exact PB hcall hmix hf hx h2 hr hgr (Pw.cons hvr Pw.nil)
def zW {P:Program}{G:bH}:dZ P G (fun _ _ _=>none):=by intro f ds hp r out h;cases h
theorem afB {P : Program} {G : bH} (hmix : P.follows .mixedOrders = true) {raw : Nat → Bool} {f : Nat} {fn : Func} {x : Fx} (hf : P.funcs[f]? = some fn) (hx : ux P G raw fn x) (hn : (fn.name == "runtime.NumGoroutine") = false) {z bytes : Nat}
  (h0:cw (fun _ _ _=>none) 0 x [.sl .na z []] []=some (.p (.slice z []),[]))
  (h1:cw (fun _ _ _=>none) 0 x [.sl .some z []] []=some (.p (.slice z []),[]))
  (h2:∀e es,cw (fun _ _ _=>none) 0 x [.sl .some z (e::es)] []=bif et (es.length+1) bytes then some (.p (.slice z ((e::es).take (0+(es.length+1)))),[])else none):eB P G f (Ŭ z bytes):=by
 refine pQ zW hmix (ei:=0) hf hx hn fun xs r out hg=>?_
 unfold Ŭ at hg;split at hg
 ·rename_i z' es;cases hz:Nat.beq z' z
  ·simp_all
  ·simp only[hz,Bool.true_and]at hg;cases hr:et es.length bytes
   ·simp_all
   ·simp only[hr,lμ]at hg;refine⟨z',es,rfl,fun he=>by simp_all,?_⟩
    cases es<;>simp_all
 ·grind
theorem Kn {P : Program} {G : bH} (hmix : P.follows .mixedOrders = true) {raw : Nat → Bool} {f : Nat} {fn : Func} {x : Fx} (hf : P.funcs[f]? = some fn) (hx : ux P G raw fn x) (hn : (fn.name == "runtime.NumGoroutine") = false) {z bytes : Nat}
  (h0:cw (fun _ _ _=>none) 0 x [.sl .na z []] []=some (.arr 0 0 0 z,[.arr []]))
  (h1:cw (fun _ _ _=>none) 0 x [.sl .some z []] []=some (.arr 0 0 0 z,[.arr []]))
  (h2:∀e es,cw (fun _ _ _=>none) 0 x [.sl .some z (e::es)] []=bif et (es.length+1) bytes then some (.arr 0 0 (0+(es.length+1)) z,[.arr (e::es)])else none):eB P G f (dH z bytes):=by
 refine pQ zW hmix (ei:=0) hf hx hn fun xs r out hg=>?_
 unfold dH at hg;split at hg
 ·rename_i z' es;cases hz:Nat.beq z' z
  ·simp_all
  ·simp only[hz,Bool.true_and]at hg;cases hr:et es.length bytes
   ·simp_all
   ·simp only[hr,lμ]at hg;refine⟨z',es,rfl,fun he=>by simp_all,?_⟩
    cases es<;>simp_all
 ·grind
def jK (z:Nat)(zd:Da)(bytes:Nat):Fx:=⟨(.seq (.reg 0 [⟨(some 2),.mv,[(.n z)],0,none⟩] none [0]) (.seq (.seq (.reg 0 [⟨(some 3),.mv,[(.t 0)],0,none⟩,⟨(some 4),(.binN 1 .eql),[(.t 3),(.n z)],0,none⟩] none [0,4]) (.cond (.t 4) (.seq (.reg 0 [⟨(some 2),.mv,[(.n z)],0,none⟩] none [2]) .ret) .skip)) (.seq (.reg 1 [⟨(some 5),(.bsl z zd 0 []),[],0,none⟩,⟨(some 6),.mv,[(.t 0)],0,none⟩,⟨(some 7),(.app z bytes),[(.t 5),(.t 6)],0,none⟩,⟨(some 2),.mv,[(.t 7)],1,none⟩] none [2]) .ret))),[(.t 2)],true⟩
def N7 (z bytes:Nat)(e:Da)(es:LD):lu z bytes 0 0 [.sl .exact z [],.sl .some z (e::es)] [] []=bif et (es.length+1) bytes then some (.arr 0 0 (0+(es.length+1)) z,[(0,.arr (e::es))],[])else none:=by
 simp only[lu,jv,s0,List.isEmpty_nil,cond_true,elems,li,show Nat.beq z z=true from Nat.beq_refl z,Bool.true_or,Bool.true_and,List.isEmpty_cons,Bool.false_and,cond_false,List.length_nil,List.length_cons,List.nil_append,et]
def Ce (z bytes:Nat)(e:Da)(es:LD)(k:KV):c4 (fun _ _ _=>none) 0 (.app z bytes) 0 [.sl .exact z [],.sl .some z (e::es)] [.unborn] k=bif et (es.length+1) bytes then k (.arr 0 0 (0+(es.length+1)) z) [.arr (e::es)]else none:=by
 have:c4 (fun _ _ _=>none) 0 (.app z bytes) 0 [.sl .exact z [],.sl .some z (e::es)] [.unborn] k=match lu z bytes 0 0 [.sl .exact z [],.sl .some z (e::es)] [] []with
  |none=>none
  |some (v,ups,new)=>k v (grow (au [.unborn] ups) new):=rfl
 rw[this,N7];cases et (es.length+1) bytes<;>rfl
def Ko (z:Nat)(zd:Da)(bytes:Nat)(e:Da)(es:LD):cw (fun _ _ _=>none) 0 (jK z zd bytes) [.sl .some z (e::es)] []=bif et (es.length+1) bytes then some (.p (.slice z ((e::es).take (0+(es.length+1)))),[])else none:=by
 rw[<-sY];have h:wJ (Ks (jK z zd bytes).body) (fun _ _ _=>none) 0 (jK z zd bytes).res (jK z zd bytes).fz [.sl .some z (e::es)] []=c4 (fun _ _ _=>none) 0 (.app z bytes) 0 [.sl .exact z [],.sl .some z (e::es)] [.unborn] (fun v hp=>fB v fun v=>Ũ hp fun hp=>Lv (.cons 2 v .nil) hp [.t 2] fun ds=>KI 0 true ds hp):=by rfl
 rw[h,Ce];cases et (es.length+1) bytes
 ·rfl
 ·simp only[iX,sH];rfl
def cb (z:Nat)(zd:Da)(bytes:Nat):Fx:=⟨(.seq (.reg 0 [⟨(some 2),.mv,[(.n z)],0,none⟩] none [0]) (.seq (.seq (.reg 0 [⟨(some 3),.mv,[(.t 0)],0,none⟩,⟨(some 4),(.binN 1 .eql),[(.t 3),(.n z)],0,none⟩] none [0,4]) (.cond (.t 4) (.seq (.reg 0 [⟨(some 2),.mv,[(.n z)],0,none⟩] none [2]) (.gh (.own 2 z) .ret)) .skip)) (.seq (.reg 1 [⟨(some 5),(.bsl z zd 0 []),[],0,none⟩,⟨(some 6),.mv,[(.t 0)],0,none⟩,⟨(some 7),(.app z bytes),[(.t 5),(.t 6)],0,none⟩,⟨(some 2),.mv,[(.t 7)],1,none⟩] none [2]) .ret))),[(.t 2)],false⟩
def FO (z:Nat)(zd:Da)(bytes:Nat)(e:Da)(es:LD):cw (fun _ _ _=>none) 0 (cb z zd bytes) [.sl .some z (e::es)] []=bif et (es.length+1) bytes then some (.arr 0 0 (0+(es.length+1)) z,[.arr (e::es)])else none:=by
 rw[<-sY];have h:wJ (Ks (cb z zd bytes).body) (fun _ _ _=>none) 0 (cb z zd bytes).res (cb z zd bytes).fz [.sl .some z (e::es)] []=c4 (fun _ _ _=>none) 0 (.app z bytes) 0 [.sl .exact z [],.sl .some z (e::es)] [.unborn] (fun v hp=>fB v fun v=>Ũ hp fun hp=>Lv (.cons 2 v .nil) hp [.t 2] fun ds=>KI 0 false ds hp):=by rfl
 rw[h,Ce];cases et (es.length+1) bytes
 ·rfl
 ·simp only[iX,sH];rfl
def jb (z bytes:Nat)(ds:List D)(hp:List Ob):Option (D×List Ob):=
 match ds,hp with
 |[.p x],[]=>dH z bytes [x]
 |[.arr id lo len z'],[.arr es]=>bif Nat.beq id 0&&(Nat.beq z' z&&(Nat.ble (lo+len) es.length&&et len bytes))then some (.arr 1 0 len z,[.arr es,.arr ((es.drop lo).take len)])else none
 |_,_=>none
theorem Km {P : Program} {G : bH} (hmix : P.follows .mixedOrders = true) {raw : Nat → Bool} {f : Nat} {fn : Func} {z bytes : Nat} {zd : Da} (hf : P.funcs[f]? = some fn) (hx : ux P G raw fn (cb z zd bytes)) (hn : (fn.name == "runtime.NumGoroutine") = false)
  (hp:eB P G f (dH z bytes)) (g0:∀es,cw (fun _ _ _=>none) 0 (cb z zd bytes) [.sl .na z []] [.arr es]=some (.arr 1 0 0 z,[.arr es,.arr []])) (g1:∀es,cw (fun _ _ _=>none) 0 (cb z zd bytes) [.sl .some z []] [.arr es]=some (.arr 1 0 0 z,[.arr es,.arr []])) (g2:∀lo n es,((es.drop lo).take (n+1)).length=n+1->et (n+1) bytes=true->cw (fun _ _ _=>none) 0 (cb z zd bytes) [.arr 0 lo (n+1) z] [.arr es]=some (.arr 1 0 (n+1) z,[.arr es,.arr ((es.drop lo).take (n+1))])): @AL _ mvNone P G f (jb z bytes):=by
 intro ds hq r out hg;unfold jb at hg;split at hg
 ·rename_i x;obtain⟨k1,k2⟩:=hp [x] r out hg;refine⟨k1,fun φ w S vs hr hgr hv=>?_⟩
  have hφ:φ=[]:=lη hr.len;subst hφ;exact(k2 w S vs hr.low hgr ((Pw.of_map_left (f:=D.p) (xs:=[x]) hv).mono fun _ _ h=>by simpa only[VR]using h)).mono fun e w' q=>q
 ·rename_i id lo len z' es;cases hc:Nat.beq id 0&&(Nat.beq z' z&&(Nat.ble (lo+len) es.length&&et len bytes))with
  |false=>rw[hc]at hg;cases hg
  |true=>
  rw[hc]at hg;simp only[cond_true,lα,lμ]at hg;obtain⟨rfl,rfl⟩:=hg;simp only[lγ,beq_eq,ble_eq,lδ]at hc;obtain⟨rfl,rfl,hle,hro⟩:=hc;refine⟨⟨fn,hf,?_,hn⟩,fun φ w S vs hr hgr hv=>?_⟩
  ·cases hb:fn.body with
   |none=>obtain⟨h4,_⟩:=hx;rw[hb]at h4;simp at h4
   |some c=>rfl
  obtain⟨v,us,rfl,hv1,hv2⟩:=hv.cons_inv;obtain rfl:=hv2.nil_inv;have run:∀d,VR φ w S d v->cw (fun _ _ _=>none) 0 (cb z' zd bytes) [d] [.arr es]=some (.arr 1 0 len z',[.arr es,.arr ((es.drop lo).take len)])->Calls P f [v].toArray w (RetOk φ [.arr es] w S (.arr 1 0 len z') [.arr es,.arr ((es.drop lo).take len)] 1):=fun d hd he=>
   PB zW hmix hf hx he hr hgr (Pw.cons hd Pw.nil)
  cases len with
  |zero=>
   rw[List.take_zero]at run ⊢
   have hv3:=hv1;simp only[VR]at hv3;obtain⟨b,o,cap,n,a,k1,k2,k3,rfl,k4⟩:=hv3;cases a with
   |none=>exact run (.sl .na z' []) (by simp only[VR];exact⟨none,_,[],rfl,by simp,by simp[fN],by simp[oy],by simp⟩) (g0 es)
   |some a=>exact run (.sl .some z' []) (by simp only[VR];exact⟨some a,_,[],rfl,by simp,by simp[fN],by simp[oy],by simp⟩) (g1 es)
  |succ n=>
   have hl:((es.drop lo).take (n+1)).length=n+1:=by rw[mγ,mυ];omega
   exact run _ hv1 (g2 lo n es hl hro)
 ·cases hg
theorem I3 {P:Program}{G:bH}{tab:Nat->Option Fn}(h:nk P G tab){k:Nat}{g:LD->Option (D×List Ob)}(hg:eB P G k g):nk P G (fun f=>bif Nat.beq f k then some (.prim g)else tab f):=by
 refine⟨fun f x hx=>?_,fun f g' hx=>?_,fun f g' x hx=>?_,fun f g' hx=>?_⟩
 ·cases hk:Nat.beq f k
  ·rw[hk]at hx;exact h.code f x hx
  ·rw[hk]at hx;simp at hx
 ·cases hk:Nat.beq f k
  ·rw[hk]at hx;exact h.prim f g' hx
  ·rw[hk]at hx;simp only[cond_true,lα,Fn.prim.injEq]at hx;subst hx;rw[lθ hk];exact hg
 ·cases hk:Nat.beq f k
  ·rw[hk]at hx;exact h.both f g' x hx
  ·rw[hk]at hx;simp at hx
 ·cases hk:Nat.beq f k
  ·rw[hk]at hx;exact h.any f g' hx
  ·rw[hk]at hx;simp at hx
theorem UH {P:Program}{G:bH}{tab:Nat->Option Fn}(h:nk P G tab){k:Nat}{g:List D->List Ob->Option (D×List Ob)}(hg:AL P G k g):nk P G (fun f=>bif Nat.beq f k then some (.any g)else tab f):=by
 refine⟨fun f x hx=>?_,fun f g' hx=>?_,fun f g' x hx=>?_,fun f g' hx=>?_⟩
 ·cases hk:Nat.beq f k
  ·rw[hk]at hx;exact h.code f x hx
  ·rw[hk]at hx;simp at hx
 ·cases hk:Nat.beq f k
  ·rw[hk]at hx;exact h.prim f g' hx
  ·rw[hk]at hx;simp at hx
 ·cases hk:Nat.beq f k
  ·rw[hk]at hx;exact h.both f g' x hx
  ·rw[hk]at hx;simp at hx
 ·cases hk:Nat.beq f k
  ·rw[hk]at hx;exact h.any f g' hx
  ·rw[hk]at hx;simp only[cond_true,lα,Fn.any.injEq]at hx;subst hx;rw[lθ hk];exact hg
theorem Tp {P:Program}{G:bH}(hmix:P.follows .mixedOrders=true){tab:Nat->Option Fn}{tabH:Nat->Option Hn}(h:nk P G tab)(hs:∀f,same (tabH f) (tab f))(n:Nat):dZ P G (F0 tabH n):=by
 rw[Ps hs n];exact pd hmix h n
end
section
def afD (x:Nat):LN->LN
 |[]=>[x]
 |y::r=>bif Nat.beq x y then y::r else bif Nat.blt x y then x::y::r else y::afD x r
def WZ (x:Nat):LN->LN
 |[]=>[]
 |y::r=>bif Nat.beq x y then r else y::WZ x r
def UO:LN->LN->LN
 |[],l=>l
 |x::r,l=>afD x (UO r l)
def KO (x:Nat):LN->Bool
 |[]=>false
 |y::r=>bif Nat.beq x y then true else KO x r
def VE:A->LN->LN
 | .t n,l=>afD n l
 |_,l=>l
def QC:List A->LN->LN
 |[],l=>l
 |a::r,l=>VE a (QC r l)
def Zi (x:ek)(l:LN):LN:=
 QC x.as (match x.gd with
  |some (g,_)=>afD g (match x.dst with|some d=>WZ d l|none=>l)
  |none=>(match x.dst with|some d=>WZ d l|none=>l))
def IB:List ek->LN->LN
 |[],out=>out
 |x::r,out=>Zi x (IB r out)
def In (t:Nat):List (Nat×ek)->Option ek
 |[]=>none
 |(s,x)::r=>bif Nat.beq s t then some x else In t r
def AG (d:List (Nat×ek)):Nat->Nat->Nat->Option (Nat×Nat)
 |0,_,_=>none
 |n+1,p,off=>match In p d with
  |none=>some (p,off)
  |some x=>match x.op,x.as with
   | .fa k,.t q::_=>AG d n q (off+k)
   | .mv,.t q::_=>AG d n q off
   | .nilck,.t q::_=>AG d n q off
   |_,_=>none
def þ (d:List (Nat×ek))(x:ek):List Gh:=
 match x.op,x.as with
 | .app z _,.t t::_=>match In t d with
  |none=>[.own t z]
  |some y=>match y.op,y.as with
   | .mv,.t s::_=>match In s d with
    |none=>[.own s z]
    |some _=>[]
   | .load _ _,.t p::_=>match AG d 20 p 0 with
    |some (q,off)=>[.ownc q off z]
    |none=>[]
   |_,_=>[]
 |_,_=>[]
def Qo:List (Nat×ek)->List ek->List Gh
 |_,[]=>[]
 |d,x::r=>þ d x++Qo (match x.dst with|some s=>(s,x)::d|none=>d) r
def pP:Co->List Gh
 | .reg _ ops _ _=>Qo [] ops
 | .seq a b=>pP a++pP b
 | .cond _ a b=>pP a++pP b
 | .block _ b=>pP b
 | .loop _ b=>pP b
 | .gh _ b=>pP b
 |_=>[]
def ã:Gh->Gh->Bool
 | .own s z,.own t y=>Nat.beq s t&&Nat.beq z y
 | .ownc s o z,.ownc t p y=>Nat.beq s t&&(Nat.beq o p&&Nat.beq z y)
 |_,_=>false
def PJ (g:Gh):List Gh->Bool
 |[]=>false
 |h::r=>bif ã g h then true else PJ g r
def QD:Gh->Nat
 | .own s _=>s
 | .ownc s _ _=>s
 | .frz s=>s
 | .frzc s _=>s
 | .tog s _=>s
 | .pst s _=>s
 | .pfz s _=>s
 | .pkp _=>0
 | .keep _=>0
def EI (h:LN):List Gh->List Gh->Co->Co
 |[],_,c=>c
 |g::r,seen,c=>bif KO (QD g) h&&!PJ g seen then .gh g (EI h r (g::seen) c)else EI h r seen c
def Y2:List (Nat×LN)->Nat->LN
 |[],_=>[]
 |(j,l)::r,i=>bif Nat.beq j i then l else Y2 r i
def sj (rl:LN):Co->LN->List (Nat×LN)->Co×LN
 | .skip,out,_=>(.skip,out)
 | .ret,_,_=>(.ret,rl)
 | .exit i,_,ex=>(.exit i,Y2 ex i)
 | .reg n ops ps _,out,_=>(.reg n ops ps out,IB ops out)
 | .seq a b,out,ex=>(.seq (sj rl a (sj rl b out ex).2 ex).1 (sj rl b out ex).1,(sj rl a (sj rl b out ex).2 ex).2)
 | .cond c t e,out,ex=>(.cond c (sj rl t out ex).1 (sj rl e out ex).1,VE c (UO (sj rl t out ex).2 (sj rl e out ex).2))
 | .block i b,out,ex=>(.block i (sj rl b out ((i,out)::ex)).1,(sj rl b out ((i,out)::ex)).2)
 | .loop _ b,_,ex=>(EI (sj rl b [] ex).2 (pP b) [] (.loop (sj rl b [] ex).2 (sj rl b (sj rl b [] ex).2 ex).1),(sj rl b [] ex).2)
 | .gh g c,out,ex=>(.gh g (sj rl c out ex).1,(sj rl c out ex).2)
def uo (h:LN)(c:Co):∀(gs seen:List Gh),er (EI h gs seen c)=er c
 |[],_=>rfl
 |g::r,seen=>by
  simp only[EI];cases KO (QD g) h&&!PJ g seen
  ·exact uo h c r seen
  ·exact uo h c r (g::seen)
def mb (rl:LN):∀(c:Co) (out:LN) (ex:List (Nat×LN)),er (sj rl c out ex).1=er c
 | .skip,_,_=>rfl
 | .ret,_,_=>rfl
 | .exit _,_,_=>rfl
 | .reg _ _ _ _,_,_=>rfl
 | .seq a b,out,ex=>by simp only[sj,er,mb rl a,mb rl b]
 | .cond c t e,out,ex=>by simp only[sj,er,mb rl t,mb rl e]
 | .block i b,out,ex=>by simp only[sj,er,mb rl b]
 | .loop _ b,out,ex=>by simp only[sj,uo,er,mb rl b]
 | .gh g c,out,ex=>by simp only[sj,er,mb rl c]
def Zr (g:Gh)(c:Co):Co:=
 match g with
 | .pst s _=>match c with
  | .reg n ops ps out=> .reg n ops ps (UO [s] out)
  |c=>c
 | .pfz s _=>match c with
  | .reg n ops ps out=> .reg n ops ps (UO [s] out)
  |c=>c
 |_=>c
def af4 (g:Gh)(c:Co):er (Zr g c)=er c:=by
 cases g<;>first|rfl|(cases c<;>rfl)
def ghAt:LN->Gh->Co->Co
 |[],g,c=> .gh g (Zr g c)
 |0::p,g,.seq a b=> .seq (ghAt p g a) b
 |1::p,g,.seq a b=> .seq a (ghAt p g b)
 |0::p,g,.cond c a b=> .cond c (ghAt p g a) b
 |1::p,g,.cond c a b=> .cond c a (ghAt p g b)
 |0::p,g,.block i b=> .block i (ghAt p g b)
 |0::p,g,.loop l b=> .loop l (ghAt p g b)
 |0::p,g,.gh h b=> .gh h (ghAt p g b)
 |_,_,c=>c
def af3:∀(p:LN) (g:Gh) (c:Co),er (ghAt p g c)=er c:=by
 intro p g c;induction p,g,c using ghAt.induct<;>simp_all [ghAt,er,af4]
def Iq:List (LN×Gh)->Co->Co
 |[],c=>c
 |(p,g)::r,c=>ghAt p g (Iq r c)
def CE:∀(l:List (LN×Gh)) (c:Co),er (Iq l c)=er c
 |[],_=>rfl
 |(p,g)::r,c=>by simp only[Iq,af3,CE r]
variable {raw:Nat->Bool}
def Sp {P:Program}{G:bH}{N:Nat}{ops:List Oper}{draw:Bool}{x:Co}(h:FJ P G raw N ops draw=some x):er x=x:=by
 unfold FJ at h;split at h
 ·cases h
 ·cases draw
  ·simp at h;subst h;rfl
  ·cases he:gw ops 0
   ·simp_all
   ·rw[he]at h;simp at h;split at h
    ·simp at h;subst h;rfl
    ·cases h
def Wz {P:Program}{G:bH}{N:Nat}:∀{c:Code} {x:Co},y3 P G raw N c=some x->er x=x:=by
 intro c;induction c<;>intro x h<;>simp only[y3]at h
 all_goals try (first|(simp at h;subst h;rfl)|simp_all|exact Sp h)
 case seq a b iha ihb=>
  split at h
  ·rename_i a' b' ha hb;simp at h;subst h;simp only[er,iha ha,ihb hb]
  ·cases h
 case cond c t e iht ihe=>
  split at h
  ·rename_i c' t' e' hc ht he;simp at h;subst h;simp only[er,iht ht,ihe he]
  ·cases h
 case block i b ih=>
  split at h
  ·rename_i b' hb;simp at h;subst h;simp only[er,ih hb]
  ·cases h
 case loop b ih=>
  split at h
  ·rename_i b' hb;simp at h;subst h;simp only[er,ih hb]
  ·cases h
def Ya:Rv->Nat
 | .t n=>n
 | .cell a _ _=>a
def AC:List Rv->LN
 |[]=>[]
 |r::rs=>afD (Ya r) (AC rs)
structure L1 where
 raw:Nat->Nat->Bool
 thaw:Nat->Bool
 ghs:Nat->List (LN×Gh)
 prim:Nat->Option (LD->Option (D×List Ob))
def fY (P:Program)(G:bH)(s:L1)(f:Nat):Option Fx:=
 match P.funcs[f]? with
 |some fn=>match fn.body with
  |some c=>match y3 P G (s.raw f) fn.ntmps c,Kg P fn.results.toList with
   |some x,some rs=>some ⟨Iq (s.ghs f) (sj (AC rs) x (AC rs) []).1,rs,!s.thaw f⟩
   |_,_=>none
  |none=>none
 |none=>none
def ũ {P:Program}{G:bH}{s:L1}{f:Nat}{x:Fx}(h:fY P G s f=some x):∃fn,P.funcs[f]?=some fn/\ux P G (s.raw f) fn x:=by
 unfold fY at h;split at h
 ·rename_i fn hf;refine⟨fn,hf,?_⟩;split at h
  ·rename_i c hc;split at h
   ·rename_i y rs hy hr;simp at h;subst h;refine⟨?_,hr⟩;rw[hc];simp only[hy,CE,mb,Wz hy]
   ·cases h
  ·cases h
 ·cases h
def QK (P:Program)(G:bH)(s:L1)(f:Nat):Option Fn:=
 match s.prim f with
 |some g=>match fY P G s f with
  |some x=>some (.both g x)
  |none=>some (.prim g)
 |none=>match fY P G s f with
  |some x=>some (.code x)
  |none=>none
variable [Letters]
theorem UG {P : Program} {G : bH} {s : L1} (hn : P.funcs.toList.all (fun fn => !(fn.name == "runtime.NumGoroutine")) = true) (hp : ∀ f g, s.prim f = some g → eB P G f g) : nk P G (QK P G s) := by
 have hc : ∀ f y, fY P G s f = some y → ∃ fn raw, P.funcs[f]? = some fn ∧ ux P G raw fn y ∧ (fn.name == "runtime.NumGoroutine") = false := by
  intro f y hy;obtain⟨fn,h1,h2⟩:=ũ hy;grind
 refine⟨fun f x h=>?_,fun f g h=>?_,fun f g x h=>?_,fun f g h=>?_⟩
 all_goals
  unfold QK at h;grind
end
structure Bx (α:Type) where
 un:α
def iu (l t:Tm):Tm:=Tm.rec (motive:=fun _=>Tm) t (fun s d _ ih=> .cons s d ih) l
def eG:Tm->LN
 | .nil=>[]
 | .cons s _ r=>s::eG r
def abm (s:Nat):LN->Option Nat
 |[]=>none
 |x::r=>bif Nat.beq x s then some 0 else match abm s r with
  |some j=>some (j+1)
  |none=>none
def Yg (l:Tm):Tm:=Tm.rec (motive:=fun _=>Tm) .nil (fun _ _ r _=>r) l
def Z3 (l:Tm):D:=Tm.rec (motive:=fun _=>D) .junk (fun _ d _ _=>d) l
def Ig:Nat->Bx (Tm->D)
 |0=>⟨fun l=>Z3 l⟩
 |1=>⟨fun l=>Z3 (Yg l)⟩
 |2=>⟨fun l=>Z3 (Yg (Yg l))⟩
 |n+3=>⟨fun l=>(Ig n).un (Yg (Yg (Yg l)))⟩
def Cw:∀(n:Nat) (l:Tm),(Ig n).un l=Nat.rec (motive:=fun _=>Tm->D) (fun l=>Z3 l) (fun _ ih l=>ih (Yg l)) n l
 |0,l=>rfl
 |1,l=>rfl
 |2,l=>rfl
 |n+3,l=>Cw n _
def yi (s:Nat)(t:Tm):∀(l:Tm),get (iu l t) s=match abm s (eG l)with
  |some j=>(Ig j).un l
  |none=>get t s
 | .nil=>rfl
 | .cons x d r=>by
  show(bif Nat.beq x s then d else get (iu r t) s)=_;simp only[eG,abm];cases h:Nat.beq x s
  ·rw[yi s t r];cases abm s (eG r)with
   |none=>rfl
   |some j=>
    simp only[Cw];rfl
  ·rfl
def DX (σ:LN):A->Bx (Tm->Tm->D)
 | .t n=>match abm n σ with
  |some j=>⟨fun _ l=>(Ig j).un l⟩
  |none=>⟨fun t _=>mi t n⟩
 | .c x=>⟨fun _ _=> .p x⟩
 | .n z=>⟨fun _ _=> .sl .nil z []⟩
 | .f g=>⟨fun _ _=> .p (.fn g [])⟩
 | .g x=>⟨fun _ _=> .ip x 0⟩
def sR (l t:Tm)(a:A):(DX (eG l) a).un t l=To (iu l t) a:=by
 cases a<;>try rfl
 rename_i n;show _=mi (iu l t) n;rw[fq,yi];simp only[DX];cases abm n (eG l)with
 |none=>simp only[fq]
 |some j=>rfl
abbrev UW:=Bx (Tm->Tm->D)
def rb (as:List UW)(t l:Tm):List D:=List.rec (motive:=fun _=>List D) [] (fun a _ ih=>a.un t l::ih) as
def Yq (o:O)(kk:Nat)(as:List UW):Bx (aD->Nat->Tm->Tm->List Ob->KV->R):=
 match o,as with
 | .mv,[a]=>⟨fun _ _ t l hp k=>k (a.un t l) hp⟩
 | .pick,[c,a,b]=>⟨fun _ _ t l hp k=>Qp (c.un t l) (a.un t l) (b.un t l) fun v=>k v hp⟩
 | .bin op,[x,y]=>⟨fun _ _ t l hp k=>Sb op (x.un t l) (y.un t l) fun v=>k v hp⟩
 | .un .not,[x]=>⟨fun _ _ t l hp k=>XV (x.un t l) fun v=>k v hp⟩
 | .ia esz,[x,i]=>⟨fun _ _ t l hp k=>Ė esz (x.un t l) (i.un t l) fun v=>k v hp⟩
 | .ix,[x,i]=>⟨fun _ _ t l hp k=>Z5 (x.un t l) (i.un t l) fun v=>k v hp⟩
 | .fa off,[x]=>⟨fun _ _ t l hp k=>Ē off (x.un t l) fun v=>k v hp⟩
 | .nilck,[x]=>⟨fun _ _ t l hp k=>Qk (x.un t l) fun v=>k v hp⟩
 | .ext i,[x]=>⟨fun _ _ t l hp k=>Tq i (x.un t l) fun v=>k v hp⟩
 | .len kd,[x]=>⟨fun _ _ t l hp k=>Zh kd (x.un t l) hp fun v=>k v hp⟩
 | .call f raw,as=>⟨fun call _ t l hp k=>H6 call f raw (rb as t l) hp k⟩
 | .alloc zs,[]=>⟨fun _ base _ _ hp k=>yU base kk zs hp k⟩
 | .box n,[d]=>⟨fun _ base t l hp k=>Si base n kk (d.un t l) hp k⟩
 | .store n,[a,d]=>⟨fun call base t l hp k=>AE call base n kk (a.un t l) (d.un t l) hp k⟩
 | .slStr lo hi,x::xs=>⟨fun _ _ t l hp k=>AB lo hi (x.un t l) (rb xs t l) fun v=>k v hp⟩
 | .fld off n agg,[x]=>⟨fun _ _ t l hp k=>PA off n agg (x.un t l) fun v=>k v hp⟩
 | .build zs ps,vs=>⟨fun _ _ t l hp k=>y0 zs ps (rb vs t l) fun v=>k v hp⟩
 | .app esz bytes,[a,b]=>⟨fun call base t l hp k=>R3 call base esz bytes kk (a.un t l) (b.un t l) hp k⟩
 | .load 1 false,[x]=>⟨fun _ _ t l hp k=>P3 (x.un t l) hp fun v=>k v hp⟩
 | .load n true,[x]=>⟨fun _ _ t l hp k=>Vz n true (x.un t l) hp fun v=>k v hp⟩
 |o,as=>⟨fun call base t l hp k=>KS call base o kk (rb as t l) hp k⟩
def GF (o:O)(kk:Nat)(as:List UW)(call:aD)(base:Nat)(t l:Tm)(hp:List Ob)(k:KV):(Yq o kk as).un call base t l hp k=KS call base o kk (rb as t l) hp k:=by
 unfold Yq;split<;>first
  |rfl
  |(
    show _=KS call base (.load _ true) kk [_] hp k;unfold KS;simp)
def oc (σ:LN):List A->List UW
 |[]=>[]
 |a::r=>DX σ a::oc σ r
def qk (t l:Tm):∀as,rb (oc (eG l) as) t l=pD (iu l t) as
 |[]=>rfl
 |a::r=>by
  show(DX (eG l) a).un t l::rb (oc (eG l) r) t l=To (iu l t) a::pD (iu l t) r;rw[sR,qk t l r]
def Â (σ:LN)(x:ek):Bx (aD->Nat->Tm->Tm->List Ob->KV->R):=
 match x.gd with
 |none=>Yq x.op x.k (oc σ x.as)
 |some (g,w)=>⟨fun call base t l hp k=>gG ((DX σ (.t g)).un t l) w (fun k=>(Yq x.op x.k (oc σ x.as)).un call base t l hp k) hp k⟩
def Qn (x:ek)(call:aD)(base:Nat)(t l:Tm)(hp:List Ob)(k:KV):(Â (eG l) x).un call base t l hp k=Yn x.gd (iu l t) (fun k=>KS call base x.op x.k (pD (iu l t) x.as) hp k) hp k:=by
 unfold Â Yn;cases h:x.gd with
 |none=>simp only[GF,qk]
 |some p=>
  simp only[GF,qk,sR];rfl
def GI (σ:LN):LN->Bx (Tm->Tm->Tm)
 |[]=>⟨fun _ _=> .nil⟩
 |s::r=>⟨fun t l=> .cons s ((DX σ (.t s)).un t l) ((GI σ r).un t l)⟩
def Ai (t l:Tm):∀out,(GI (eG l) out).un t l=iZ out (iu l t)
 |[]=>rfl
 |s::r=>by
  show Tm.cons s ((DX (eG l) (.t s)).un t l) ((GI (eG l) r).un t l)=_;rw[sR,Ai t l r];rfl
def Li (out:LN):LN->List ek->Bx (aD->Nat->Tm->Tm->List Ob->K->R)
 |σ,[]=>⟨fun _ _ t l hp k=>k ((GI σ out).un t l) hp⟩
 |σ,x::r=>match x.dst with
  |some d=>⟨fun call base t l hp k=>(Â σ x).un call base t l hp fun v hp=>(Li out (d::σ) r).un call base t (.cons d v l) hp k⟩
  |none=>⟨fun call base t l hp k=>(Â σ x).un call base t l hp fun _ hp=>(Li out σ r).un call base t l hp k⟩
def sS (out:LN)(call:aD)(base:Nat)(t:Tm)(k:K):∀(ops:List ek) (l:Tm) (hp:List Ob),(Li out (eG l) ops).un call base t l hp k=zC call base ops (iu l t) hp fun tm hp=>k (iZ out tm) hp
 |[],l,hp=>by
  show k ((GI (eG l) out).un t l) hp=k (iZ out (iu l t)) hp;rw[Ai]
 |x::r,l,hp=>by
  have step:zC call base (x::r) (iu l t) hp (fun tm hp=>k (iZ out tm) hp)=Yn x.gd (iu l t) (fun k=>KS call base x.op x.k (pD (iu l t) x.as) hp k) hp fun v hp=>zC call base r (put x.dst v (iu l t)) hp fun tm hp=>k (iZ out tm) hp:=rfl
  rw[step];unfold Li;cases hd:x.dst with
  |none=>
   simp only[Qn];congr 1;funext v hp;exact sS out call base t k r l hp
  |some d=>
   simp only[Qn];congr 1;funext v hp;exact sS out call base t k r (.cons d v l) hp
structure fb where
 rs:LN
 wl:List (Nat×Bool)
 grow:Bool
 lim:Nat
def mH (l:List (Nat×Bool)):LN:=List.rec (motive:=fun _=>LN) [] (fun p _ ih=>bif p.2 then p.1::ih else ih) l
def cp (f:fb):dR:=⟨f.rs,mH f.wl,f.grow,f.lim⟩
def vV (ids:LN)(hp:List Ob)(l:List (Nat×Ob)):List (Nat×Bool):=List.rec (motive:=fun _=>List (Nat×Bool)) [] (fun p _ ih=>(p.1,!(lk p.1 ids&&qK (aI hp p.1) p.2))::ih) l
def mI (ids:LN)(hp:List Ob):∀l,mH (vV ids hp l)=f8 ids hp l
 |[]=>rfl
 |(i,o)::r=>by
  show(bif !(lk i ids&&qK (aI hp i) o)then i::mH (vV ids hp r)else mH (vV ids hp r))=_;rw[mI ids hp r];simp only[f8,show @Mv.eq mvNone=qK from rfl];cases lk i ids&&qK (aI hp i) o<;>rfl
def TX (i:Nat)(l:List (Nat×Bool)):Bool:=List.rec (motive:=fun _=>Bool) false (fun p _ ih=>Bool.rec (motive:=fun _=>Bool) ih (Bool.rec (motive:=fun _=>Bool) ih true p.2) (Nat.beq p.1 i)) l
def Ir (i:Nat):∀l,TX i l=(mH l).contains i
 |[]=>rfl
 |(j,b)::r=>by
  show Bool.rec (motive:=fun _=>Bool) (TX i r) (Bool.rec (motive:=fun _=>Bool) (TX i r) true b) (Nat.beq j i)=(bif b then j::mH r else mH r).contains i;rw[Ir i r];cases b with
  |false=>cases Nat.beq j i<;>rfl
  |true=>
   simp only[cond_true,List.contains_cons];have:(i==j)=Nat.beq j i:=by rw[mζ,beq_iff_eq,Nat.beq_eq];omega
   rw[this];cases Nat.beq j i<;>rfl
def LR (a:fb)(i:Nat):Bool:=Bool.rec (motive:=fun _=>Bool) (Bool.rec (motive:=fun _=>Bool) false (Nat.ble a.lim i) a.grow) true (TX i a.wl)
def I8 (a:fb)(i:Nat):LR a i=wr (cp a) i:=by
 unfold LR wr cp;rw[Ir];cases(mH a.wl).contains i<;>cases a.grow<;>simp
def IK (a:fb)(l:LN):Bool:=List.rec (motive:=fun _=>Bool) true (fun i _ ih=>Bool.rec (motive:=fun _=>Bool) ih false (LR a i)) l
def Du (a:fb):∀l,IK a l=l.all (fun i=>!wr (cp a) i)
 |[]=>rfl
 |i::r=>by
  show Bool.rec (motive:=fun _=>Bool) (IK a r) false (LR a i)=_;rw[Du a r,I8];simp;cases wr (cp a) i<;>rfl
def uX (a:fb)(l:List (Nat×Bool)):Bool:=List.rec (motive:=fun _=>Bool) true (fun p _ ih=>Bool.rec (motive:=fun _=>Bool) ih (Bool.rec (motive:=fun _=>Bool) ih false p.2) (LR a p.1)) l
def yf (a:fb):∀l,uX a l=(mH l).all (fun i=>!wr (cp a) i)
 |[]=>rfl
 |(i,b)::r=>by
  show Bool.rec (motive:=fun _=>Bool) (uX a r) (Bool.rec (motive:=fun _=>Bool) (uX a r) false b) (LR a i)=(bif b then i::mH r else mH r).all _;rw[yf a r,I8];cases b with
  |false=>cases wr (cp a) i<;>rfl
  |true=>
   simp;cases wr (cp a) i<;>rfl
def FC (a b:fb):Bool:=
 Bool.rec (motive:=fun _=>Bool) false (Bool.rec (motive:=fun _=>Bool) false (Bool.rec (motive:=fun _=>Bool) false (Bool.rec (motive:=fun _=>Bool) false (Bool.rec (motive:=fun _=>Bool) true (Bool.rec (motive:=fun _=>Bool) true false b.grow) a.grow) (uX b a.wl)) (IK b a.rs)) (uX a b.wl)) (IK a b.rs)
def J7 (a b:fb):FC a b=ju (cp a) (cp b):=by
 unfold FC ju;simp only[Du,yf];simp only[cp];cases b.rs.all _<;>cases(mH b.wl).all _<;>cases a.rs.all _<;>cases(mH a.wl).all _<;>cases a.grow<;>cases b.grow<;>rfl
def jZ (fs:List fb):List (Nat×Nat)->Bool
 |[]=>true
 |(i,j)::r=>match fs[i]?,fs[j]? with
  |some a,some b=>Bool.rec (motive:=fun _=>Bool) false (jZ fs r) (FC a b)
  |_,_=>false
def kW (fs:List fb):∀ps,jZ fs ps=eQ (fs.map cp) ps
 |[]=>rfl
 |(i,j)::r=>by
  simp only[jZ,eQ,lξ,kW fs r];cases fs[i]? with
  |none=>rfl
  |some a=>
   cases fs[j]? with
   |none=>rfl
   |some b=>
    simp only[Option.map_some,J7];cases ju (cp a) (cp b)<;>rfl
abbrev KL:=D->List Ob->fb->R
def FL (call:aD)(f:Nat)(raw:Bool)(vs:List D)(hp:List Ob)(k:KL):R:=
 forceNs (eg hp aZ (dr vs []) []) fun ids=>
  forceDs (fi (hU ids) (Bool.rec (motive:=fun _=>List D) (vs.map norm) vs raw)) fun args=>forceHb (lg ids hp) fun hp'=>
   caseO (call f args hp') none fun ro=>Prod.rec (motive:=fun _=>R) (fun r out=>nW (Nat.ble ids.length out.length)
    (fB (R_ (back ids.length hp.length ids out.length) r) fun v=>forceHb (ll (back ids.length hp.length ids out.length) out) fun out'=>
     forceHb (grow (au hp (ids.zip out')) (out'.drop ids.length)) fun hp2=>k v hp2 ⟨ids,vV ids hp (ids.zip out'),!(out'.drop ids.length).isEmpty,hp.length⟩) none) ro
variable {k:KL} {q:KF}
def Kj (call:aD)(f:Nat)(raw:Bool)(vs:List D)(hp:List Ob)(h:∀v hp f,k v hp f=q v hp (cp f)):FL call f raw vs hp k=xE call f raw vs hp q:=by
 unfold FL xE;simp only[h,cp,mI]
def FK (call:aD)(f:Nat)(raw:Bool)(vs:List D)(hp:List Ob)(k:KL):R:=
 xD call f raw vs hp (FL call f raw vs hp k) fun v=>k v hp ⟨[],[],false,hp.length⟩
def Ki (call:aD)(f:Nat)(raw:Bool)(vs:List D)(hp:List Ob)(h:∀v hp f,k v hp f=q v hp (cp f)):FK call f raw vs hp k=Cl call f raw vs hp q:=by
 unfold FK Cl;rw[Kj _ _ _ _ _ h];simp only[h];rfl
def Ip (call:aD)(base:Nat)(o:O)(kk:Nat)(vs:List D)(hp:List Ob)(k:KL):R:=
 bif !(dJ o)||cT (aI hp (base+kk))then
  match nb call base o kk vs (bm o vs hp) ((bm o vs hp).map (aI hp)) hp.length with
  |none=>none
  |some (v,ups,new)=>k v (grow (au hp ups) new) ⟨bif dJ o then(base+kk)::bm o vs hp else bm o vs hp,vV (bm o vs hp) hp ups,!new.isEmpty,hp.length⟩
 else none
def PE (call:aD)(base:Nat)(o:O)(kk:Nat)(vs:List D)(hp:List Ob)(h:∀v hp f,k v hp f=q v hp (cp f)):Ip call base o kk vs hp k=zu call base o kk vs hp q:=by
 unfold Ip zu;cases !(dJ o)||cT (aI hp (base+kk))with
 |false=>rfl
 |true=>
  cases nb call base o kk vs (bm o vs hp) ((bm o vs hp).map (aI hp)) hp.length with
  |none=>rfl
  |some e=>
   simp only[h,cp,mI]
def Lf (o:O)(kk:Nat)(as:List UW):Bx (aD->Nat->Tm->Tm->List Ob->KL->R):=
 match o with
 | .call f raw=>⟨fun call _ t l hp k=>FK call f raw (rb as t l) hp k⟩
 |o=>match kh o with
  |true=>⟨fun call base t l hp k=>(Yq o kk as).un call base t l hp fun v hp'=>k v hp' ⟨bm o (rb as t l) hp,[],false,hp.length⟩⟩
  |false=>⟨fun call base t l hp k=>Ip call base o kk (rb as t l) hp k⟩
def GE {o:O}(hs:kh o=true)(kk:Nat)(as:List UW):Lf o kk as=⟨fun call base t l hp k=>(Yq o kk as).un call base t l hp fun v hp'=>k v hp' ⟨bm o (rb as t l) hp,[],false,hp.length⟩⟩:=by
 cases o<;>first
  |rfl
  |(cases hs;done)
  |rfl
def Ge {call:aD}{base kk:Nat}{o:O}{vs:List D}{hp:List Ob}(hs:kh o=true):uG call base o kk vs hp q=KS call base o kk vs hp fun v hp'=>q v hp' (Vq o vs hp):=by
 cases o<;>first
  |rfl
  |(cases hs;done)
  |rfl
def Lh {o:O}(hs:kh o=false)(hc:∀f raw,o≠ .call f raw)(kk:Nat)(as:List UW):Lf o kk as=⟨fun call base t l hp k=>Ip call base o kk (rb as t l) hp k⟩:=by
 cases o<;>first
  |rfl
  |grind
  |rfl
  |(simp only[Lf,hs])
def KT {call:aD}{base kk:Nat}{o:O}{vs:List D}{hp:List Ob}(hs:kh o=false)(hc:∀f raw,o≠ .call f raw):uG call base o kk vs hp q=zu call base o kk vs hp q:=by
 cases o<;>first
  |rfl
  |grind
  |rfl
  |(simp only[uG,hs])
def IN (o:O)(kk:Nat)(as:List UW)(call:aD)(base:Nat)(t l:Tm)(hp:List Ob)(h:∀v hp f,k v hp f=q v hp (cp f)):(Lf o kk as).un call base t l hp k=uG call base o kk (rb as t l) hp q:=by
 by_cases hc:∃f raw,o= .call f raw
 ·obtain⟨f,raw,rfl⟩:=hc;exact Ki _ _ _ _ _ h
 ·have hc:∀f raw,o≠ .call f raw:=fun f raw e=>hc ⟨f,raw,e⟩
  cases hs:kh o with
  |true=>
   rw[GE hs,Ge hs];rw[GF];congr 1;funext v hp';exact h _ _ _
  |false=>
   rw[Lh hs hc,KT hs hc];exact PE _ _ _ _ _ _ h
def Uo (σ:LN)(x:ek):Bx (aD->Nat->Tm->Tm->List Ob->KL->R):=
 match x.gd with
 |none=>Lf x.op x.k (oc σ x.as)
 |some (g,w)=>⟨fun call base t l hp k=>zA ((DX σ (.t g)).un t l) w ((Lf x.op x.k (oc σ x.as)).un call base t l hp k) (k (.tup []) hp ⟨[],[],false,0⟩)⟩
def IP (x:ek)(call:aD)(base:Nat)(t l:Tm)(hp:List Ob)(hk:∀v hp f,k v hp f=q v hp (cp f)):(Uo (eG l) x).un call base t l hp k=Ym x.gd (iu l t) (fun k=>uG call base x.op x.k (pD (iu l t) x.as) hp k) hp q:=by
 unfold Uo Ym;cases h:x.gd with
 |none=>simp only[IN _ _ _ _ _ _ _ _ hk,qk]
 |some p=>
  simp only[IN _ _ _ _ _ _ _ _ hk,qk,sR,hk];rfl
def DY (out:LN):LN->List ek->Bx (aD->Nat->Tm->Tm->List Ob->List fb->(Tm->List Ob->List fb->R)->R)
 |σ,[]=>⟨fun _ _ t l hp fs k=>k ((GI σ out).un t l) hp fs.reverse⟩
 |σ,x::r=>match x.dst with
  |some d=>⟨fun call base t l hp fs k=>(Uo σ x).un call base t l hp fun v hp f=>(DY out (d::σ) r).un call base t (.cons d v l) hp (f::fs) k⟩
  |none=>⟨fun call base t l hp fs k=>(Uo σ x).un call base t l hp fun _ hp f=>(DY out σ r).un call base t l hp (f::fs) k⟩
def vd (out:LN)(call:aD)(base:Nat)(t:Tm){k:Tm->List Ob->List fb->R}{q:Tm->List Ob->List dR->R}(hk:∀tm hp fs,k tm hp fs=q tm hp (fs.map cp)):∀(ops:List ek) (l:Tm) (hp:List Ob) (fs:List fb),(DY out (eG l) ops).un call base t l hp fs k=pq call base ops (iu l t) hp (fs.map cp) fun tm hp fs=>q (iZ out tm) hp fs
 |[],l,hp,fs=>by
  show k ((GI (eG l) out).un t l) hp fs.reverse=q (iZ out (iu l t)) hp (fs.map cp).reverse;rw[Ai,hk,List.map_reverse]
 |x::r,l,hp,fs=>by
  have step:pq call base (x::r) (iu l t) hp (fs.map cp) (fun tm hp fs=>q (iZ out tm) hp fs)=Ym x.gd (iu l t) (fun k=>uG call base x.op x.k (pD (iu l t) x.as) hp k) hp fun v hp f=>pq call base r (put x.dst v (iu l t)) hp (f::fs.map cp) fun tm hp fs=>q (iZ out tm) hp fs:=rfl
  rw[step];unfold DY;cases hd:x.dst with
  |none=>
   exact IP _ _ _ _ _ _ fun v hp f=>vd out call base t hk r l hp (f::fs)
  |some d=>
   exact IP _ _ _ _ _ _ fun v hp f=>vd out call base t hk r (.cons d v l) hp (f::fs)
def Zu (nal:Nat)(ops:List ek)(prs:Option (List (Nat×Nat)))(out:LN):Bx Sem:=
 match prs with
 |none=>match nal with
  |0=>⟨fun c _ _ tm hp kn _ _=>(Li out [] ops).un c hp.length tm .nil hp kn⟩
  |n+1=>⟨fun c _ _ tm hp kn _ _=>(Li out [] ops).un c hp.length tm .nil (pk (n+1) hp) kn⟩
 |some ps=>⟨fun c _ _ tm hp kn _ _=>(DY out [] ops).un c hp.length tm .nil (pk nal hp) [] fun tm hp fs=>nW (jZ fs ps) (kn tm hp) none⟩
def Uw (nal:Nat)(ops:List ek)(prs:Option (List (Nat×Nat)))(out:LN):(Zu nal ops prs out).un=Zv nal ops prs out:=by
 funext c n m tm hp kn ke kr
 cases prs with
 |none=>
  cases nal with
  |zero=>exact sS out c hp.length tm kn ops .nil hp
  |succ k=>exact sS out c hp.length tm kn ops .nil (pk (k+1) hp)
 |some ps=>exact vd out c hp.length tm (q:=fun tm hp fs=>nW (eQ fs ps) (kn tm hp) none) (fun tm hp fs=>by rw[kW]) ops .nil (pk nal hp) []
def lW:Co->Bx Sem
 | .skip=>⟨VD⟩
 | .reg nal ops prs out=>Zu nal ops prs out
 | .seq a b=>⟨fun c n m tm hp kn ke kr=>(lW a).un c n m tm hp (fun tm hp=>(lW b).un c n m tm hp kn ke kr) ke kr⟩
 | .cond x t e=>⟨fun c n m tm hp kn ke kr=>H9 (To tm x) ((lW t).un c n m tm hp kn ke kr) ((lW e).un c n m tm hp kn ke kr)⟩
 | .block id b=>⟨fun c n m tm hp kn ke kr=>(lW b).un c n m tm hp kn (fun i tm hp=>nW (Nat.beq i id) (kn tm hp) (ke i tm hp)) kr⟩
 | .loop live b=>⟨fun c n m tm hp _ ke kr=>xY m live (fun tm hp k=>(lW b).un c n m tm hp k ke kr) n tm hp⟩
 | .exit id=>⟨Vn id⟩
 | .ret=>⟨Zx⟩
 | .gh g b=>⟨fun c n m tm hp kn ke kr=>Xj m g tm hp fun tm hp=>(lW b).un c n m tm hp (ni m g kn) (fun i=>ni m g (ke i)) (ni m g kr)⟩
def iw:∀c:Co,(lW c).un=Ks c
 | .skip=>rfl
 | .reg nal ops prs out=>Uw nal ops prs out
 | .seq a b=>by
  show(fun(c:aD) (n m:Nat) (tm:Tm) (hp:List Ob) (kn:K) (ke:Nat->K) (kr:K)=>(lW a).un c n m tm hp (fun tm hp=>(lW b).un c n m tm hp kn ke kr) ke kr)=_;rw[iw a,iw b];rfl
 | .cond x t e=>by
  show(fun(c:aD) (n m:Nat) (tm:Tm) (hp:List Ob) (kn:K) (ke:Nat->K) (kr:K)=>H9 (To tm x) ((lW t).un c n m tm hp kn ke kr) ((lW e).un c n m tm hp kn ke kr))=_;rw[iw t,iw e];rfl
 | .block id b=>by
  show(fun(c:aD) (n m:Nat) (tm:Tm) (hp:List Ob) (kn:K) (ke:Nat->K) (kr:K)=>(lW b).un c n m tm hp kn (fun i tm hp=>nW (Nat.beq i id) (kn tm hp) (ke i tm hp)) kr)=_;rw[iw b];rfl
 | .loop live b=>by
  show(fun(c:aD) (n m:Nat) (tm:Tm) (hp:List Ob) (_:K) (ke:Nat->K) (kr:K)=>xY m live (fun tm hp k=>(lW b).un c n m tm hp k ke kr) n tm hp)=_;rw[iw b];rfl
 | .exit _=>rfl
 | .ret=>rfl
 | .gh g b=>by
  show(fun(c:aD) (n m:Nat) (tm:Tm) (hp:List Ob) (kn:K) (ke:Nat->K) (kr:K)=>Xj m g tm hp fun tm hp=>(lW b).un c n m tm hp (ni m g kn) (fun i=>ni m g (ke i)) (ni m g kr))=_;rw[iw b];rfl
def Za:Option Fn->Option Hn
 |some (.code x)=>some (.code (lW x.body).un x.res x.fz)
 |some (.prim g)=>some (.prim g)
 |some (.both g x)=>some (.both g (lW x.body).un x.res x.fz)
 |some (.any g)=>some (.any g)
 |none=>none
def KP (o:Option Fn):same (Za o) o:=by
 cases o with
 |none=>trivial
 |some x=>cases x with
  |code x=>exact⟨(iw _).symm,rfl,rfl⟩
  |prim g=>rfl
  |both g x=>exact⟨rfl,(iw _).symm,rfl,rfl⟩
  |any g=>rfl
def VG (P:Program)(G:bH)(s:L1)(f:Nat):Option Hn:=Za (QK P G s f)
def LM (P:Program)(G:bH)(s:L1)(f:Nat):same (VG P G s f) (QK P G s f):=KP _
end
end Go.Ab
