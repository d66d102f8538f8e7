import Derived.Test.YtbgddkffhndjcaaGreatDoorAm0
import Derived.Test.YtbgddkffhndjcaaGreatDoorAm2
import Derived.Lib.ItoaNum
import Derived.KernelRfl
set_option linter.all false
section
namespace Go.Ab
open Go
abbrev R:=Option (D×List Ob)
abbrev K:=Tm→List Ob→R
abbrev KV:=D→List Ob→R
noncomputable section
def nC (tm:Tm)(t:Nat):D:=
 Tm.rec (motive:=fun _=>D) .junk (fun s d _ ih=>Bool.rec (motive:=fun _=>D) ih d (Nat.beq s t)) tm
theorem fw (t:Nat):∀tm,nC tm t=get tm t
 | .nil=>rfl
 | .cons s d r=>by
  show Bool.rec (motive:=fun _=>D) (nC r t) d (Nat.beq s t)=bif Nat.beq s t then d else get r t
  rw[fw t r];cases Nat.beq s t<;>rfl
def SX (tm:Tm)(a:A):D:=
 A.rec (motive:=fun _=>D) (fun n=>nC tm n) (fun x=> .p x) (fun z=> .sl .nil z []) (fun g=> .p (.fn g [])) (fun x=> .ip x 0) a
theorem Pt (tm:Tm)(a:A):SX tm a=ev tm a:=by
 cases a
 ·exact fw _ tm
 all_goals rfl
def fi (d:D)(e:R)(k:Da→R):R:=
 D.rec (motive_1:=fun _=>R) (motive_2:=fun _=>PUnit.{1})
  (fun x=>k x) (fun _ _=>e) (fun _ _=>e) (fun _ _=>e) (fun _ _ _=>e) (fun _ _=>e) (fun _ _ _ _=>e) (fun _ _ _=>e) (fun _=>e) (fun _ _ _=>e) (fun _ _ _=>e) e ⟨⟩ (fun _ _ _ _=>⟨⟩) d
def qL (x:Da)(e:R)(k:IntKind→Int→R):R:=
 Da.rec (motive_1:=fun _=>R) (motive_2:=fun _=>PUnit.{1})
  (fun _=>e) (fun i n=>k i n) (fun _=>e) (fun _ _=>e) (fun _ _ _=>e) e (fun _ _=>e) (fun _ _ _ _=>e) e (fun _ _ _=>e) e (fun _ _ _=>e) e (fun _ _ _=>e) (fun _ _=>e) ⟨⟩ (fun _ _ _ _=>⟨⟩) x
def qK (x:Da)(e:R)(t f:R):R:=
 Da.rec (motive_1:=fun _=>R) (motive_2:=fun _=>PUnit.{1})
  (fun b=>Bool.rec (motive:=fun _=>R) f t b) (fun _ _=>e) (fun _=>e) (fun _ _=>e) (fun _ _ _=>e) e (fun _ _=>e) (fun _ _ _ _=>e) e (fun _ _ _=>e) e (fun _ _ _=>e) e (fun _ _ _=>e) (fun _ _=>e) ⟨⟩ (fun _ _ _ _=>⟨⟩) x
def lP (x:Da)(e:R)(k:List Nat→R):R:=
 Da.rec (motive_1:=fun _=>R) (motive_2:=fun _=>PUnit.{1})
  (fun _=>e) (fun _ _=>e) (fun s=>k s) (fun _ _=>e) (fun _ _ _=>e) e (fun _ _=>e) (fun _ _ _ _=>e) e (fun _ _ _=>e) e (fun _ _ _=>e) e (fun _ _ _=>e) (fun _ _=>e) ⟨⟩ (fun _ _ _ _=>⟨⟩) x
def gB (x:Da)(e:R)(k:Nat→List Da→R):R:=
 Da.rec (motive_1:=fun _=>R) (motive_2:=fun _=>PUnit.{1})
  (fun _=>e) (fun _ _=>e) (fun _=>e) (fun _ _=>e) (fun z es _=>k z es) e (fun _ _=>e) (fun _ _ _ _=>e) e (fun _ _ _=>e) e (fun _ _ _=>e) e (fun z es _=>k z es) (fun _ _=>e) ⟨⟩ (fun _ _ _ _=>⟨⟩) x
def caseO {α:Type}(o:Option α)(e:R)(k:α→R):R:=Option.rec (motive:=fun _=>R) e (fun x=>k x) o
def pS (b:Bool)(t e:R):R:=Bool.rec (motive:=fun _=>R) e t b
theorem fF (b:Bool)(t e:R):pS b t e=bif b then t else e:=by cases b<;>rfl
def bK (b:Bool)(k:D→R):R:=Bool.rec (motive:=fun _=>R) (k (.p (.bool false))) (k (.p (.bool true))) b
theorem Um (b:Bool)(k:D→R):bK b k=k (.p (.bool b)):=by cases b<;>rfl
def df (call:aG)(base:Nat)(o:O)(kk:Nat)(vs:List D)(hp:List Ob)(k:KV):R:=
 bif !(cr o)||cf (aP hp (base+kk))then
  match k8 call base o kk vs (bj o vs hp) ((bj o vs hp).map (aP hp)) hp.length with
  |none=>none
  |some (v,ups,new)=>k v (grow (ao hp ups) new)
 else none
def kc (k:IntKind):Nat:=IntKind.rec (motive:=fun _=>Nat) 0 1 2 3 4 5 6 7 k
theorem PW:∀i j:IntKind,Nat.beq (kc i) (kc j)=decide (i=j):=by
 intro i j;cases i<;>cases j<;>rfl
def fM (n:Int)(p q:Nat→R):R:=Int.rec (motive:=fun _=>R) (fun m=>p m) (fun m=>q m) n
def YV (m n:Int)(k:Bool→R):R:=
 fM m (fun a=>fM n (fun b=>k (Nat.beq a b)) fun _=>k false) fun a=>fM n (fun _=>k false) fun b=>k (Nat.beq a b)
theorem V5 (m n:Int)(k:Bool→R):YV m n k=k (eqI m n):=by cases m<;>cases n<;>rfl
def XJ (m n:Int)(k:Bool→R):R:=
 fM m (fun a=>fM n (fun b=>k (Nat.blt a b)) fun _=>k false) fun a=>fM n (fun _=>k true) fun b=>k (Nat.blt b a)
theorem Wr (m n:Int)(k:Bool→R):XJ m n k=k (bo m n):=by cases m<;>cases n<;>rfl
def lim (i:IntKind):Nat:=IntKind.rec (motive:=fun _=>Nat) 0 0 2147483648 9223372036854775808 256 0 4294967296 18446744073709551616 i
def Qi (i:IntKind)(m:Nat)(k:D→R):R:=pS (Nat.blt m (lim i)) (k (.p (.int i (.ofNat m)))) (k (.p (.int i (aj i (.ofNat m)))))
theorem In (i:IntKind)(m:Nat)(h:Nat.blt m (lim i)=true):aj i (.ofNat m)= .ofNat m:=by
 cases i<;>simp only[lim]at h;case i8=>exact absurd (Nat.ble_eq.mp h) (by omega)
 case i16=>exact absurd (Nat.ble_eq.mp h) (by omega)
 case u16=>exact absurd (Nat.ble_eq.mp h) (by omega)
 all_goals simp only[aj,h,cond_true]
theorem TE (i:IntKind)(m:Nat)(k:D→R):Qi i m k=k (.p (.int i (aj i (.ofNat m)))):=by
 unfold Qi;rw[fF];cases h:Nat.blt m (lim i)
 ·rfl
 ·rw[In i m h];rfl
def oC (o:Option Da)(k:D→R):R:=caseO o none fun x=>k (.p x)
def XK (b:Bool)(k:D→R):R:=Bool.rec (motive:=fun _=>R) (k (.p (.bool true))) (k (.p (.bool false))) b
theorem Qj (b:Bool)(k:D→R):XK b k=k (.p (.bool (!b))):=by cases b<;>rfl
def Vu (op:BinOp)(i:IntKind)(m n:Int)(e:R)(k:D→R):R:=
 BinOp.rec (motive:=fun _=>R)
  (fM m (fun a=>fM n (fun b=>Qi i (Nat.add a b) k) fun _=>e) fun _=>e)
  (fM m (fun a=>fM n (fun b=>pS (Nat.ble b a) (Qi i (Nat.sub a b) k) e) fun _=>e) fun _=>e)
  (fM m (fun a=>fM n (fun b=>Qi i (Nat.mul a b) k) fun _=>e) fun _=>e)
  e e e e e e e e
  (YV m n fun b=>bK b k) (YV m n fun b=>XK b k) (XJ m n fun b=>bK b k) (XJ n m fun b=>XK b k) (XJ n m fun b=>bK b k) (XJ m n fun b=>XK b k) op
theorem R2 (op:BinOp)(i:IntKind)(m n:Int)(k:D→R):Vu op i m n (oC (bin op (.p (.int i m)) (.p (.int i n))) k) k=oC (bin op (.p (.int i m)) (.p (.int i n))) k:=by
 cases op<;>simp only[Vu,V5,Wr,Um,Qj,TE];case add=>
  cases m<;>cases n<;>try rfl
  simp[fM,bin,dS,jg,oC,caseO]
 case sub=>
  cases m<;>cases n<;>try rfl
  rename_i a b;simp only[fM,fF];cases h:Nat.ble b a
  ·rfl
  ·have hle:=Nat.le_of_ble_eq_true h;simp only[cond_true,bin,dS,cond_false,jg,oC,caseO,if_true];congr 4;exact Int.ofNat_sub hle
 case mul=>
  cases m<;>cases n<;>try rfl
  simp[fM,bin,dS,jg,oC,caseO]
 all_goals simp[bin,dS,jg,oC,caseO,bh]
def Hb (a:List Nat):List Nat→Bool:=
 List.rec (motive:=fun _=>List Nat→Bool) (fun b=>List.rec (motive:=fun _=>Bool) true (fun _ _ _=>false) b)
  (fun x _ ih b=>List.rec (motive:=fun _=>Bool) false (fun y r _=>Bool.rec (motive:=fun _=>Bool) false (ih r) (Nat.beq x y)) b) a
theorem B5:∀a b,Hb a b=cp a b
 |[],[]=>rfl
 |[],_::_=>rfl
 |_::_,[]=>rfl
 |x::a,y::b=>by
  show Bool.rec (motive:=fun _=>Bool) false (Hb a b) (Nat.beq x y)=bif Nat.beq x y then cp a b else false
  rw[B5 a b];cases Nat.beq x y<;>rfl
def WP (op:BinOp)(a b:List Nat)(e:R)(k:D→R):R:=
 BinOp.rec (motive:=fun _=>R) e e e e e e e e e e e (bK (Hb a b) k) (XK (Hb a b) k) e e e e op
theorem TX (op:BinOp)(a b:List Nat)(k:D→R):WP op a b (oC (bin op (.p (.str a)) (.p (.str b))) k) k=oC (bin op (.p (.str a)) (.p (.str b))) k:=by
 cases op<;>simp only[WP,Um,Qj,B5]<;>simp[bin,pI,oC,caseO]
def RZ (op:BinOp)(x y:D)(k:D→R):R:=
 fi x none fun a=>Da.rec (motive_1:=fun _=>R) (motive_2:=fun _=>PUnit.{1})
  (fun _=>none) (fun i m=>fi y none fun b=>qL b (oC (bin op x y) k) fun j n=>pS (Nat.beq (kc i) (kc j)) (Vu op i m n (oC (bin op x y) k) k) (oC (bin op x y) k))
  (fun s=>fi y none fun b=>lP b none fun t=>WP op s t (oC (bin op x y) k) k)
  (fun _ _=>none) (fun _ _ _=>none) none (fun _ _=>none) (fun _ _ _ _=>none) none (fun _ _ _=>none) none (fun _ _ _=>none) none (fun _ _ _=>none) (fun _ _=>oC (bin op x y) k) ⟨⟩ (fun _ _ _ _=>⟨⟩) a
theorem Kt (op:BinOp)(a:Da)(y:D)(h:AR a=none)(hs:∀s,a≠ .str s):bin op (.p a) y=none:=by
 cases y<;>try (cases a<;>rfl)
 rename_i b;cases a<;>simp only[AR,reduceCtorEq]at h<;>first
  |rfl
  |exact absurd rfl (hs _)
theorem R0 (op:BinOp)(x y:D)(k:D→R):RZ op x y k=oC (bin op x y) k:=by
 cases x<;>try rfl
 rename_i a;cases a;case int i m=>
  cases y<;>try rfl
  rename_i b;cases b<;>try rfl
  rename_i j n;show pS (Nat.beq (kc i) (kc j)) _ _=_;rw[PW,fF];by_cases h:i=j
  ·subst h;simp only[decide_true,cond_true];exact R2 op i m n k
  ·simp[h]
 case str s=>
  cases y<;>try rfl
  rename_i b;cases b<;>try rfl
  exact TX op s _ k
 case sym i s=>rfl
 all_goals (rw[Kt op _ y rfl (by intro s h;cases h)];rfl)
def QD (c a b:D)(k:D→R):R:=fi c none fun x=>qK x none (k a) (k b)
def Ww (d:D)(k:D→R):R:=fi d none fun x=>qK x none (k (.p (.bool false))) (k (.p (.bool true)))
def E4 {α:Type}(l:List α)(i:Nat)(k:α→R):R:=
 List.rec (motive:=fun _=>Nat→R) (fun _=>none) (fun x _ ih i=>Nat.rec (motive:=fun _=>R) (k x) (fun i _=>ih i) i) l i
theorem rq {α:Type}(k:α→R):∀(l:List α) (i:Nat),E4 l i k=caseO l[i]? none k
 |[],i=>by simp[E4,caseO]
 |x::r,0=>rfl
 |x::r,i+1=>by
  show E4 r i k=_;rw[rq k r i];simp
def tl {α:Type}(l:List α):List α:=List.rec (motive:=fun _=>List α) [] (fun _ t _=>t) l
def X6 {α:Type}(l:List α):List α:=tl (tl (tl (tl l)))
def T4 {α:Type}(l:List α):List α:=X6 (X6 (X6 (X6 l)))
def IQ {α:Type}(l:List α)(j:Nat):List α:=Nat.rec (motive:=fun _=>List α) l (fun _ ih=>T4 ih) j
theorem Q3 {α:Type}(l:List α):tl l=l.drop 1:=by cases l<;>rfl
theorem T5 {α:Type}(l:List α):T4 l=l.drop 16:=by
 simp only[T4,X6,Q3,mκ]
theorem xg {α:Type}(l:List α):∀j,IQ l j=l.drop (16*j)
 |0=>rfl
 |j+1=>by
  show T4 (IQ l j)=_;rw[T5,xg l j,mκ];congr 1
def Tf {α:Type}(l:List α)(i:Nat)(k:α→R):R:=E4 (IQ l (Nat.div i 16)) (Nat.mod i 16) k
theorem I6 {α:Type}(l:List α)(i:Nat)(k:α→R):Tf l i k=caseO l[i]? none k:=by
 unfold Tf;rw[rq,xg,List.getElem?_drop];congr 2;exact Nat.div_add_mod i 16
def Zh (es:List Da)(i:Int)(k:Da→R):R:=fM i (fun j=>Tf es j k) fun _=>none
theorem Vq (es:List Da)(i:Int)(k:Da→R):Zh es i k=caseO (fq es i) none k:=by
 cases i with
 |ofNat j=>exact I6 es j k
 |negSucc j=>rfl
def Y1 (esz:Nat)(x i:D)(e:R)(k:D→R):R:=
 fi x e fun x=>gB x none fun z es=>fi i none fun i=>qL i none fun _ i=>pS (Nat.beq z esz) (Zh es i fun y=>k (.ip y 0)) none
def Yp (x i:D)(k:D→R):R:=
 fi x none fun x=>lP x none fun s=>fi i none fun i=>qL i none fun _ i=>fM i (fun j=>Tf s j fun b=>k (.p (.int .u8 (Int.ofNat b)))) fun _=>none
def Zr (off:Nat)(d:D)(e:R)(k:D→R):R:=
 D.rec (motive_1:=fun _=>R) (motive_2:=fun _=>PUnit.{1})
  (fun _=>e) (fun _ _=>none) (fun _ _=>none) (fun id o=>k (.box id (o+off))) (fun id i o=>k (.el id i (o+off))) (fun x o=>k (.ip x (o+off)))
  (fun _ _ _ _=>none) (fun _ _ _=>none) (fun _=>none) (fun _ _ _=>none) (fun _ _ _=>none) none ⟨⟩ (fun _ _ _ _=>⟨⟩) d
def Qn (d:D)(e:R)(k:D→R):R:=
 D.rec (motive_1:=fun _=>R) (motive_2:=fun _=>PUnit.{1})
  (fun _=>e) (fun _ _=>none) (fun _ _=>none) (fun _ _=>k d) (fun _ _ _=>k d) (fun _ _=>k d)
  (fun _ _ _ _=>none) (fun _ _ _=>none) (fun _=>none) (fun _ _ _=>k d) (fun _ _ _=>k d) none ⟨⟩ (fun _ _ _ _=>⟨⟩) d
def jL (o:Ob)(e:R)(k:List D→R):R:=
 Ob.rec (motive:=fun _=>R) (fun cs=>k cs) (fun _=>e) (fun _=>e) (fun _ _=>e) (fun _ _=>e) e e (fun _ _=>e) (fun _=>e) o
def Cy (d:D)(hp:List Ob)(e:R)(k:D→R):R:=
 D.rec (motive_1:=fun _=>R) (motive_2:=fun _=>PUnit.{1})
  (fun _=>e) (fun _ _=>none) (fun _ _=>none)
  (fun id off=>E4 hp id fun o=>jL o none fun cs=>E4 cs off k)
  (fun _ _ _=>e)
  (fun x off=>E4 (cells x) off fun x=>k (.p x))
  (fun _ _ _ _=>none) (fun _ _ _=>none) (fun _=>none) (fun _ _ _=>none) (fun _ _ _=>none) none ⟨⟩ (fun _ _ _ _=>⟨⟩) d
def S4 (i:Nat)(d:D)(k:D→R):R:=
 D.rec (motive_1:=fun _=>R) (motive_2:=fun _=>PUnit.{1})
  (fun _=>none) (fun _ _=>none) (fun ds _=>E4 ds i k) (fun _ _=>none) (fun _ _ _=>none) (fun _ _=>none)
  (fun _ _ _ _=>none) (fun _ _ _=>none) (fun _=>none) (fun _ _ _=>none) (fun _ _ _=>none) none ⟨⟩ (fun _ _ _ _=>⟨⟩) d
def EQ {α:Type}(l:List α):Nat:=List.rec (motive:=fun _=>Nat) 0 (fun _ _ ih=>Nat.succ ih) l
theorem jQ {α:Type}:∀l:List α,EQ l=l.length
 |[]=>rfl
 |_::r=>congrArg Nat.succ (jQ r)
def tF (d:D)(k:Nat→R):R:=
 D.rec (motive_1:=fun _=>R) (motive_2:=fun _=>PUnit.{1})
  (fun x=>gB x none fun _ es=>k (EQ es)) (fun _ _=>none) (fun _ _=>none) (fun _ _=>none) (fun _ _ _=>none) (fun _ _=>none) (fun _ _ len _=>k len) (fun _ _ es=>k (EQ es)) (fun _=>none) (fun _ _ _=>none) (fun _ _ _=>none) none ⟨⟩ (fun _ _ _ _=>⟨⟩) d
theorem L2 (d:D)(k:Nat→R):tF d k=caseO (rH d) none k:=by
 cases d<;>try rfl
 ·rename_i x;cases x<;>try rfl
  ·simp only[tF,fi,gB,jQ,rH,caseO]
  ·simp only[tF,fi,gB,jQ,rH,caseO]
 ·simp only[tF,jQ,rH,caseO]
def Tu (n:Nat)(k:D→R):R:=Nat.rec (motive:=fun _=>R) (k (.p (.int .i64 (.ofNat 0)))) (fun m _=>k (.p (.int .i64 (.ofNat (Nat.succ m))))) n
theorem Jc (n:Nat)(k:D→R):Tu n k=k (.p (De n)):=by cases n<;>rfl
def Wn (kd:Nat)(d:D)(e:R)(k:D→R):R:=
 Nat.rec (motive:=fun _=>R) (fi d none fun x=>lP x none fun s=>Tu (EQ s) k)
  (fun j _=>Nat.rec (motive:=fun _=>R) (tF d fun n=>Tu n k) (fun _ _=>e) j) kd
theorem Fh {α:Type}(cs:List α)(off:Nat):sub cs off 1=cs[off]?.map fun x=>[x]:=by
 unfold sub;cases h:Nat.ble (off+1) cs.length
 ·have:cs.length≤off:=by
   rcases lν off cs.length with h1|h1
   ·rw[Nat.ble_eq.mpr h1]at h;cases h
   ·exact h1
  simp[lε this]
 ·have h1:off<cs.length:=Nat.ble_eq.mp h;simp[lδ h1,List.take_one,List.head?_drop]
def ii (o:Option et)(k:D→R):R:=caseO o none fun e=>k e.1
def kT:O→Bool
 | .mv=>true
 | .pick=>true
 | .build _ _=>true
 | .load _ _=>true
 | .nilck=>true
 | .bin _=>true
 | .binB _=>true
 | .binN _ _=>true
 | .binS _ _=>true
 | .un _=>true
 | .conv _=>true
 | .mkif _=>true
 | .mkfn _=>true
 | .slStr _ _=>true
 | .fa _=>true
 | .fld _ _ _=>true
 | .ia _=>true
 | .iaa _ _=>true
 | .ix=>true
 | .lkp _ _ _=>true
 | .ext _=>true
 | .len _=>true
 | .cap=>true
 | .min2=>true
 | .max2=>true
 | .same=>true
 | .assertT _ _ _=>true
 | .b2s=>true
 | .s2b=>true
 |_=>false
def quiet (o:Option et):Prop:=∀e,o=some e→e.2=([],[])
theorem yn:quiet none:=by intro e h;cases h
theorem AN (d:D):quiet (val d):=by intro e h;cases h;rfl
theorem HT (o:Option Da):quiet (jB o):=by cases o<;>(intro e h;cases h;try rfl)
theorem HS (kt:TypeDesc)(z:D)(ok:Bool)(ks:List Da)(ws:List D)(k:D):quiet (P6 kt z ok ks ws k):=by
 unfold P6;repeat' split
 all_goals first
  |exact yn
  |exact AN _
theorem ul {call:aG}{base kk:Nat}{o:O}{vs:List D}{ids:List Nat}{obs:List Ob}{len:Nat}(h:kT o=true):quiet (k8 call base o kk vs ids obs len):=by
 cases o<;>simp only[kT,Bool.false_eq_true]at h<;>
  simp only[k8,WZ,zR,pD,fK,pE,zh,Iw,Iy,wP,Xf,Iz,IB,DP,DO,lL,Vg,DK,IA,DL,RQ,BM,GK,Kn,NA,DN,DM,ng,Kl,NC]<;>
  (repeat' (first|exact yn|exact AN _|exact HT _|exact HS _ _ _ _ _ _|split|(simp only[cond_eq_ite])))
theorem uk {o:O}(h:kT o=true):cr o=false:=by
 cases o<;>simp_all [kT,cr]
section eqs
variable {call:aG} {base kk:Nat} {hp:List Ob} {k:KV}
theorem bP {o:O}{vs:List D}(h:kT o=true):df call base o kk vs hp k=ii (k8 call base o kk vs (bj o vs hp) ((bj o vs hp).map (aP hp)) hp.length) fun v=>k v hp:=by
 have hq:=ul (call:=call) (base:=base) (kk:=kk) (vs:=vs) (ids:=bj o vs hp) (obs:=(bj o vs hp).map (aP hp)) (len:=hp.length) h;simp only[df,uk h,Bool.not_false,Bool.true_or,cond_true];cases ha:k8 call base o kk vs (bj o vs hp) ((bj o vs hp).map (aP hp)) hp.length with
 |none=>rfl
 |some e=>
  obtain⟨v,ups,new⟩:=e;have:=hq _ ha;simp only[lκ]at this;obtain⟨rfl,rfl⟩:=this;rfl
theorem KQ {o:Option Da}{k:D→R}:ii (jB o) k=oC o k:=by cases o<;>rfl
theorem R3 (op:BinOp)(x y:D):df call base (.bin op) kk [x,y] hp k=RZ op x y fun v=>k v hp:=by
 rw[R0,bP rfl];exact KQ
theorem QG (c a b:D):df call base .pick kk [c,a,b] hp k=QD c a b fun v=>k v hp:=by
 rw[bP rfl];cases c<;>try rfl
 rename_i x;cases x<;>try rfl
 rename_i b;cases b<;>rfl
theorem TF (x:D):df call base (.un .not) kk [x] hp k=Ww x fun v=>k v hp:=by
 rw[bP rfl];cases x<;>try rfl
 rename_i x;cases x<;>try rfl
 rename_i b;cases b<;>rfl
theorem Wf (esz:Nat)(x i:D):df call base (.ia esz) kk [x,i] hp k=Y1 esz x i (ii (IA esz [x,i]) fun v=>k v hp) fun v=>k v hp:=by
 rw[bP rfl];show ii (IA esz [x,i]) (fun v=>k v hp)=_;cases x<;>try rfl
 rename_i x;cases x<;>try rfl
 all_goals
  rename_i z es;cases i<;>try rfl
  rename_i i;cases i<;>try rfl
  rename_i q i;simp only[IA,Y1,fi,gB,qL,fF,Vq];cases Nat.beq z esz
  ·rfl
  ·simp only[cond_true];cases fq es i<;>rfl
theorem Wk (x i:D):df call base .ix kk [x,i] hp k=Yp x i fun v=>k v hp:=by
 rw[bP rfl];show ii (RQ [x,i]) (fun v=>k v hp)=_;cases x<;>try rfl
 rename_i x;cases x<;>try rfl
 rename_i s;cases i<;>try rfl
 rename_i i;cases i<;>try rfl
 rename_i q i;simp only[RQ,Yp,fi,lP,qL];cases i with
 |negSucc j=>rfl
 |ofNat j=>
  simp only[fM,I6];have h:(bif bh 0 (Int.ofNat j)then s[(Int.ofNat j).toNat]? else none)=s[j]?:=rfl;rw[h];cases s[j]?<;>rfl
theorem V8 (off:Nat)(x:D):df call base (.fa off) kk [x] hp k=Zr off x (ii (Vg off [x]) fun v=>k v hp) fun v=>k v hp:=by
 rw[bP rfl];cases x<;>rfl
theorem Lt (x:D):df call base .nilck kk [x] hp k=Qn x (ii (pE [x]) fun v=>k v hp) fun v=>k v hp:=by
 rw[bP rfl];cases x<;>rfl
theorem S5 (i:Nat)(x:D):df call base (.ext i) kk [x] hp k=S4 i x fun v=>k v hp:=by
 rw[bP rfl];cases x<;>try rfl
 rename_i ds;show ii (GK i [.tup ds]) (fun v=>k v hp)=_;simp only[GK,S4,rq];cases ds[i]?<;>rfl
theorem Tv (kd:Nat)(x:D):df call base (.len kd) kk [x] hp k=Wn kd x (ii (Kn kd [x] (bj (.len kd) [x] hp) ((bj (.len kd) [x] hp).map (aP hp))) fun v=>k v hp) fun v=>k v hp:=by
 rw[bP rfl];match kd with
 |0=>
  cases x<;>try rfl
  rename_i x;cases x<;>try rfl
  simp only[Wn,fi,lP,Jc,jQ];rfl
 |1=>
  show ii (match rH x with|some n=>val (.p (De n))|none=>none) _=tF x fun n=>Tu n fun v=>k v hp
  simp only[L2,Jc];cases rH x<;>rfl
 |n+2=>rfl
theorem Lq (x:D):df call base (.load 1 false) kk [x] hp k=Cy x hp (ii (fK 1 false [x] ((dids x).map (aP hp))) fun v=>k v hp) fun v=>k v hp:=by
 rw[bP rfl];cases x<;>try rfl
 ·rename_i id off;show ii (fK 1 false [.box id off] [aP hp id]) (fun v=>k v hp)=_;simp only[Cy,rq,fK,aP,lρ];cases hp[id]? with
  |none=>rfl
  |some o=>
   cases o<;>try rfl
   rename_i cs;simp only[Option.getD_some,Fh,caseO,jL];cases cs[off]?<;>rfl
 ·rename_i x off;show ii (fK 1 false [.ip x off] []) (fun v=>k v hp)=_;simp only[Cy,rq,fK,Fh];cases(cells x)[off]?<;>rfl
end eqs
end
end Go.Ab
end
section
namespace Go.Ab
open Go
noncomputable section
def forceN (m:Nat)(k:Nat→R):R:=Nat.rec (motive:=fun _=>R) (k 0) (fun m _=>k (Nat.succ m)) m
theorem iR (m:Nat)(k:Nat→R):forceN m k=k m:=by cases m<;>rfl
def Cb (n:Int)(k:Int→R):R:=fM n (fun m=>forceN m fun m=>k (.ofNat m)) fun m=>forceN m fun m=>k (.negSucc m)
theorem Aj (n:Int)(k:Int→R):Cb n k=k n:=by cases n<;>simp only[Cb,fM,iR]
def forceNs (l:List Nat)(k:List Nat→R):R:=
 List.rec (motive:=fun _=>(List Nat→R)→R) (fun k=>k []) (fun x _ ih k=>forceN x fun x=>ih fun r=>k (x::r)) l k
theorem jo:∀(l:List Nat) (k:List Nat→R),forceNs l k=k l
 |[],k=>rfl
 |x::r,k=>by
  show forceN x (fun x=>forceNs r fun r=>k (x::r))=_;rw[iR,jo r]
def og (x:Da)(k:Da→R):R:=
 Da.rec (motive_1:=fun _=>R) (motive_2:=fun _=>PUnit.{1})
  (fun b=>Bool.rec (motive:=fun _=>R) (k (.bool false)) (k (.bool true)) b) (fun i n=>Cb n fun n=>k (.int i n)) (fun s=>k (.str s)) (fun cs _=>k (.agg cs)) (fun z es _=>k (.slice z es)) (k .nilptr) (fun x _=>k (.ptr x)) (fun ks vs _ _=>k (.map ks vs)) (k .nilmap) (fun f cs _=>k (.fn f cs)) (k .nilfn) (fun t x _=>k (.iface t x)) (k .nilif) (fun z es _=>k (.sliceE z es)) (fun i s=>k (.sym i s)) ⟨⟩ (fun _ _ _ _=>⟨⟩) x
theorem pO (x:Da)(k:Da→R):og x k=k x:=by
 cases x<;>try rfl
 ·rename_i b;cases b<;>rfl
 ·simp only[og,Aj]
def gH (d:D)(k:D→R):R:=
 D.rec (motive_1:=fun _=>R) (motive_2:=fun _=>PUnit.{1})
  (fun x=>og x fun x=>k (.p x)) (fun cs _=>k (.agg cs)) (fun ds _=>k (.tup ds)) (fun id off=>forceN id fun id=>forceN off fun off=>k (.box id off)) (fun id i off=>forceN id fun id=>forceN i fun i=>forceN off fun off=>k (.el id i off)) (fun x off=>k (.ip x off))
  (fun id lo len z=>forceN id fun id=>forceN lo fun lo=>forceN len fun len=>k (.arr id lo len z)) (fun g z es=>k (.sl g z es)) (fun id=>forceN id fun id=>k (.map id)) (fun f cs _=>k (.fn f cs)) (fun t d _=>k (.iface t d)) (k .junk) ⟨⟩ (fun _ _ _ _=>⟨⟩) d
theorem kE (d:D)(k:D→R):gH d k=k d:=by
 cases d<;>simp only[gH,iR,pO]
def forceTm (tm:Tm)(k:Tm→R):R:=
 Tm.rec (motive:=fun _=>(Tm→R)→R) (fun k=>k .nil) (fun s d _ ih k=>gH d fun d=>ih fun r=>k (.cons s d r)) tm k
theorem pQ:∀(tm:Tm) (k:Tm→R),forceTm tm k=k tm
 | .nil,k=>rfl
 | .cons s d r,k=>by
  show gH d (fun d=>forceTm r fun r=>k (.cons s d r))=_;rw[kE,pQ r]
def forceDs (ds:List D)(k:List D→R):R:=
 List.rec (motive:=fun _=>(List D→R)→R) (fun k=>k []) (fun d _ ih k=>gH d fun d=>ih fun r=>k (d::r)) ds k
theorem fE:∀(ds:List D) (k:List D→R),forceDs ds k=k ds
 |[],k=>rfl
 |d::r,k=>by
  show gH d (fun d=>forceDs r fun r=>k (d::r))=_;rw[kE,fE r]
def qY (ds:List Da)(k:List Da→R):R:=
 List.rec (motive:=fun _=>(List Da→R)→R) (fun k=>k []) (fun d _ ih k=>og d fun d=>ih fun r=>k (d::r)) ds k
theorem lS:∀(ds:List Da) (k:List Da→R),qY ds k=k ds
 |[],k=>rfl
 |d::r,k=>by
  show og d (fun d=>qY r fun r=>k (d::r))=_;rw[pO,lS r]
def vt (o:Ob)(k:Ob→R):R:=
 Ob.rec (motive:=fun _=>R) (fun cs=>forceDs cs fun cs=>k (.box cs)) (fun es=>qY es fun es=>k (.arr es)) (fun es=>k (.fz es)) (fun ks vs=>k (.map ks vs)) (fun ks vs=>k (.fzm ks vs)) (k .dead) (k .unborn) (fun ks vs=>forceDs vs fun vs=>k (.mapd ks vs)) (fun es=>k (.byt es)) o
theorem Hg (o:Ob)(k:Ob→R):vt o k=k o:=by
 cases o<;>simp only[vt,fE,lS]
def vr (hp:List Ob)(k:List Ob→R):R:=
 List.rec (motive:=fun _=>(List Ob→R)→R) (fun k=>k []) (fun o _ ih k=>vt o fun o=>ih fun r=>k (o::r)) hp k
theorem pP:∀(hp:List Ob) (k:List Ob→R),vr hp k=k hp
 |[],k=>rfl
 |o::r,k=>by
  show vt o (fun o=>vr r fun r=>k (o::r))=_;rw[Hg,pP r]
def vq (o:Ob)(k:Ob→R):R:=
 Ob.rec (motive:=fun _=>R) (fun cs=>forceDs cs fun cs=>k (.box cs)) (fun es=>k (.arr es)) (fun es=>k (.fz es)) (fun ks vs=>k (.map ks vs)) (fun ks vs=>k (.fzm ks vs)) (k .dead) (k .unborn) (fun ks vs=>forceDs vs fun vs=>k (.mapd ks vs)) (fun es=>k (.byt es)) o
theorem Hf (o:Ob)(k:Ob→R):vq o k=k o:=by
 cases o<;>simp only[vq,fE]
def forceHb (hp:List Ob)(k:List Ob→R):R:=
 List.rec (motive:=fun _=>(List Ob→R)→R) (fun k=>k []) (fun o _ ih k=>vq o fun o=>ih fun r=>k (o::r)) hp k
theorem jn:∀(hp:List Ob) (k:List Ob→R),forceHb hp k=k hp
 |[],k=>rfl
 |o::r,k=>by
  show vq o (fun o=>forceHb r fun r=>k (o::r))=_;rw[Hf,jn r]
def TB (l:List Nat)(x:Nat):Bool:=List.rec (motive:=fun _=>Bool) false (fun y _ ih=>Bool.rec (motive:=fun _=>Bool) ih true (Nat.beq x y)) l
theorem Jh (x:Nat):∀l,TB l x=l.contains x
 |[]=>rfl
 |y::r=>by
  show Bool.rec (motive:=fun _=>Bool) (TB r x) true (Nat.beq x y)=_;rw[Jh x r,List.contains_cons];have:(x==y)=Nat.beq x y:=by rw[mη,beq_iff_eq,Nat.beq_eq]
  rw[this];cases Nat.beq x y<;>rfl
def JB (l:List Nat)(x:Nat):List Nat:=List.rec (motive:=fun _=>List Nat) [x] (fun y _ ih=>y::ih) l
theorem FJ (x:Nat):∀l,JB l x=l++[x]
 |[]=>rfl
 |y::r=>by
  show y::JB r x=_;rw[FJ x r];rfl
def Dg (hp:List Ob)(i:Nat):Ob:=List.rec (motive:=fun _=>Nat→Ob) (fun _=> .dead) (fun o _ ih i=>Nat.rec (motive:=fun _=>Ob) o (fun i _=>ih i) i) hp i
theorem kh:∀(hp:List Ob) (i:Nat),Dg hp i=hp.getD i .dead
 |[],i=>by simp[Dg]
 |o::r,0=>rfl
 |o::r,i+1=>by
  show Dg r i=_;rw[kh r i];simp
def z8 (d:D):List Nat→List Nat:=
 D.rec (motive_1:=fun _=>List Nat→List Nat) (motive_2:=fun _=>List Nat→List Nat)
  (fun _ ws=>ws) (fun _ ih ws=>ih ws) (fun _ ih ws=>ih ws) (fun id _ ws=>id::ws) (fun id _ _ ws=>id::ws) (fun _ _ ws=>ws)
  (fun id _ _ _ ws=>id::ws) (fun _ _ _ ws=>ws) (fun id ws=>id::ws) (fun _ _ ih ws=>ih ws) (fun _ _ ih ws=>ih ws) (fun ws=>ws) (fun ws=>ws) (fun _ _ ihd ihr ws=>ihd (ihr ws)) d
def dN (ds:List D)(ws:List Nat):List Nat:=List.rec (motive:=fun _=>List Nat) ws (fun d _ ih=>z8 d ih) ds
mutual
theorem qP:∀(d:D) (ws:List Nat),z8 d ws=dids d++ws
 | .p _,ws=>rfl
 | .agg cs,ws=>qR cs ws
 | .tup cs,ws=>qR cs ws
 | .box _ _,ws=>rfl
 | .el _ _ _,ws=>rfl
 | .ip _ _,ws=>rfl
 | .arr _ _ _ _,ws=>rfl
 | .sl _ _ _,ws=>rfl
 | .map _,ws=>rfl
 | .fn _ cs,ws=>qR cs ws
 | .iface _ d,ws=>qP d ws
 | .junk,ws=>rfl
theorem qR:∀(ds:List D) (ws:List Nat),D.rec_1 (motive_1:=fun _=>List Nat→List Nat) (motive_2:=fun _=>List Nat→List Nat)
  (fun _ ws=>ws) (fun _ ih ws=>ih ws) (fun _ ih ws=>ih ws) (fun id _ ws=>id::ws) (fun id _ _ ws=>id::ws) (fun _ _ ws=>ws)
  (fun id _ _ _ ws=>id::ws) (fun _ _ _ ws=>ws) (fun id ws=>id::ws) (fun _ _ ih ws=>ih ws) (fun _ _ ih ws=>ih ws) (fun ws=>ws) (fun ws=>ws) (fun _ _ ihd ihr ws=>ihd (ihr ws)) ds ws=dids.didsL ds++ws
 |[],ws=>rfl
 |d::r,ws=>by
  show z8 d (D.rec_1 (motive_1:=fun _=>List Nat→List Nat) (motive_2:=fun _=>List Nat→List Nat) _ _ _ _ _ _ _ _ _ _ _ _ _ _ r ws)=_;rw[qP d,qR r];simp only[dids.didsL,lω]
end
theorem du (ws:List Nat):∀ds,dN ds ws=dids.didsL ds++ws
 |[]=>rfl
 |d::r=>by
  show z8 d (dN r ws)=_;rw[qP,du ws r];simp only[dids.didsL,lω]
def xV (o:Ob)(ws:List Nat):List Nat:=Ob.rec (motive:=fun _=>List Nat) (fun cs=>dN cs ws) (fun _=>ws) (fun _=>ws) (fun _ _=>ws) (fun _ _=>ws) ws ws (fun _ vs=>dN vs ws) (fun _=>ws) o
theorem AD (o:Ob)(ws:List Nat):xV o ws=hO o++ws:=by
 cases o<;>first|rfl|exact du ws _
def eC (hp:List Ob)(n:Nat):List Nat→List Nat→List Nat:=
 Nat.rec (motive:=fun _=>List Nat→List Nat→List Nat) (fun _ acc=>acc)
  (fun _ ih ws acc=>List.rec (motive:=fun _=>List Nat) acc (fun id ws _=>Bool.rec (motive:=fun _=>List Nat) (ih (xV (Dg hp id) ws) (JB acc id)) (ih ws acc) (TB acc id)) ws) n
theorem cP (hp:List Ob):∀(n:Nat) (ws acc:List Nat),eC hp n ws acc=close hp n ws acc
 |0,ws,acc=>rfl
 |n+1,[],acc=>rfl
 |n+1,id::ws,acc=>by
  show Bool.rec (motive:=fun _=>List Nat) (eC hp n (xV (Dg hp id) ws) (JB acc id)) (eC hp n ws acc) (TB acc id)=_;rw[cP hp n,cP hp n,Jh,FJ,AD,kh];simp only[close];cases acc.contains id<;>simp
def ik (ids:List Nat)(id:Nat):Option Nat:=
 List.rec (motive:=fun _=>Nat→Option Nat) (fun _=>none) (fun x _ ih n=>Bool.rec (motive:=fun _=>Option Nat) (ih (Nat.succ n)) (some n) (Nat.beq x id)) ids 0
theorem iI (ids:List Nat):ik ids=idx ids:=by
 funext id
 have go:∀(l:List Nat) (n:Nat),List.rec (motive:=fun _=>Nat→Option Nat) (fun _=>none) (fun x _ ih n=>Bool.rec (motive:=fun _=>Option Nat) (ih (Nat.succ n)) (some n) (Nat.beq x id)) l n=idx.go id l n:=by
  intro l;induction l with
  |nil=>intro n;rfl
  |cons x r ih=>
   intro n;show Bool.rec (motive:=fun _=>Option Nat) _ (some n) (Nat.beq x id)=bif Nat.beq x id then some n else idx.go id r (n+1)
   rw[←ih (n+1)];cases Nat.beq x id<;>rfl
 exact go ids 0
def gc (σ:Nat→Option Nat)(d:D):D:=
 D.rec (motive_1:=fun _=>D) (motive_2:=fun _=>List D)
  (fun x=> .p x) (fun _ ih=> .agg ih) (fun _ ih=> .tup ih) (fun id off=>Option.rec (motive:=fun _=>D) .junk (fun j=> .box j off) (σ id)) (fun id i off=>Option.rec (motive:=fun _=>D) .junk (fun j=> .el j i off) (σ id)) (fun x off=> .ip x off)
  (fun id lo len z=>Option.rec (motive:=fun _=>D) .junk (fun j=> .arr j lo len z) (σ id)) (fun g z es=> .sl g z es) (fun id=>Option.rec (motive:=fun _=>D) .junk (fun j=> .map j) (σ id)) (fun f _ ih=> .fn f ih) (fun t _ ih=> .iface t ih) .junk [] (fun _ _ ihd ihr=>ihd::ihr) d
def eZ (σ:Nat→Option Nat)(ds:List D):List D:=List.rec (motive:=fun _=>List D) [] (fun d _ ih=>gc σ d::ih) ds
mutual
theorem fk (σ:Nat→Option Nat):∀(d:D),gc σ d=mapD σ d
 | .p _=>rfl
 | .agg cs=>by show D.agg _=_;rw[rk σ cs];rfl
 | .tup cs=>by show D.tup _=_;rw[rk σ cs];rfl
 | .box id _=>by simp only[gc,mapD];cases σ id<;>rfl
 | .el id _ _=>by simp only[gc,mapD];cases σ id<;>rfl
 | .ip _ _=>rfl
 | .arr id _ _ _=>by simp only[gc,mapD];cases σ id<;>rfl
 | .sl _ _ _=>rfl
 | .map id=>by simp only[gc,mapD];cases σ id<;>rfl
 | .fn _ cs=>by show D.fn _ _=_;rw[rk σ cs];rfl
 | .iface _ d=>by
  show D.iface _ (gc σ d)=_;rw[fk σ d];rfl
 | .junk=>rfl
theorem rk (σ:Nat→Option Nat):∀(ds:List D),D.rec_1 (motive_1:=fun _=>D) (motive_2:=fun _=>List D)
  (fun x=> .p x) (fun _ ih=> .agg ih) (fun _ ih=> .tup ih) (fun id off=>Option.rec (motive:=fun _=>D) .junk (fun j=> .box j off) (σ id)) (fun id i off=>Option.rec (motive:=fun _=>D) .junk (fun j=> .el j i off) (σ id)) (fun x off=> .ip x off)
  (fun id lo len z=>Option.rec (motive:=fun _=>D) .junk (fun j=> .arr j lo len z) (σ id)) (fun g z es=> .sl g z es) (fun id=>Option.rec (motive:=fun _=>D) .junk (fun j=> .map j) (σ id)) (fun f _ ih=> .fn f ih) (fun t _ ih=> .iface t ih) .junk [] (fun _ _ ihd ihr=>ihd::ihr) ds=mapD.mapDL σ ds
 |[]=>rfl
 |d::r=>by
  show gc σ d::_=_;rw[rk σ r,fk σ d];rfl
end
theorem gJ (σ:Nat→Option Nat):∀ds,eZ σ ds=mapD.mapDL σ ds
 |[]=>rfl
 |d::r=>by
  show gc σ d::eZ σ r=_;rw[fk,gJ σ r];rfl
def nF (σ:Nat→Option Nat)(o:Ob):Ob:=Ob.rec (motive:=fun _=>Ob) (fun cs=> .box (eZ σ cs)) (fun es=> .arr es) (fun es=> .fz es) (fun ks vs=> .map ks vs) (fun ks vs=> .fzm ks vs) .dead .unborn (fun ks vs=> .mapd ks (eZ σ vs)) (fun es=> .byt es) o
theorem Ax (σ:Nat→Option Nat)(o:Ob):nF σ o=bL σ o:=by
 cases o<;>try rfl
 ·simp only[nF,bL,gJ]
 ·simp only[nF,bL,gJ]
def lZ (ids:List Nat)(hp:List Ob):List Ob:=List.rec (motive:=fun _=>List Ob) [] (fun i _ ih=>nF (ik ids) (Dg hp i)::ih) ids
theorem jz (ids:List Nat)(hp:List Ob):lZ ids hp=bB ids hp:=by
 have go:∀l:List Nat,List.rec (motive:=fun _=>List Ob) [] (fun i _ ih=>nF (ik ids) (Dg hp i)::ih) l=l.map fun i=>bL (idx ids) (aP hp i):=by
  intro l;induction l with
  |nil=>rfl
  |cons x r ih=>
   show nF (ik ids) (Dg hp x)::_=_;rw[ih,Ax,iI,kh];rfl
 exact go ids
def ml (σ:Nat→Option Nat)(hp:List Ob):List Ob:=List.rec (motive:=fun _=>List Ob) [] (fun o _ ih=>nF σ o::ih) hp
theorem kI (σ:Nat→Option Nat):∀hp,ml σ hp=hp.map (bL σ)
 |[]=>rfl
 |o::r=>by
  show nF σ o::ml σ r=_;rw[Ax,kI σ r];rfl
def gV (m:Nat)(hp:List Ob):List Nat:=List.rec (motive:=fun _=>Nat→List Nat) (fun _=>[]) (fun o _ ih m=>Nat.rec (motive:=fun _=>List Nat) [] (fun m _=>xV o (ih m)) m) hp m
theorem gN:∀(hp:List Ob) (m:Nat),gV m hp=(hp.take m).flatMap hO
 |[],m=>by simp[gV]
 |o::r,0=>rfl
 |o::r,m+1=>by
  show xV o (gV m r)=_;rw[AD,gN r m];simp
def zE (hp:List Ob)(i:Nat)(o:Ob)(k:List Ob→R):R:=
 List.rec (motive:=fun _=>Nat→(List Ob→R)→R) (fun _ k=>k []) (fun x r ih i k=>Nat.rec (motive:=fun _=>R) (k (o::r)) (fun i _=>ih i fun r=>k (x::r)) i) hp i k
theorem rF (o:Ob):∀(hp:List Ob) (i:Nat) (k:List Ob→R),zE hp i o k=k (rG hp i o)
 |[],i,k=>by simp[zE,rG]
 |x::r,0,k=>rfl
 |x::r,i+1,k=>by
  show zE r i o (fun r=>k (x::r))=_;rw[rF o r i];rfl
def X8 (o:Ob)(t:R):R:=Ob.rec (motive:=fun _=>R) (fun _=>none) (fun _=>none) (fun _=>none) (fun _ _=>none) (fun _ _=>none) none t (fun _ _=>none) (fun _=>none) o
theorem Ij (o:Ob)(t:R):X8 o t=bif cf o then t else none:=by cases o<;>rfl
def JD (l:List Nat)(n:Nat)(k:List Nat→R):R:=
 List.rec (motive:=fun _=>Nat→(List Nat→R)→R) (fun _ k=>k []) (fun x _ ih n k=>Nat.rec (motive:=fun _=>R) (k []) (fun n _=>ih n fun r=>k (x::r)) n) l n k
theorem FM:∀(l:List Nat) (n:Nat) (k:List Nat→R),JD l n k=k (l.take n)
 |[],n,k=>by simp[JD]
 |x::r,0,k=>rfl
 |x::r,n+1,k=>by
  show JD r n (fun r=>k (x::r))=_;rw[FM r n];rfl
def Yv {α:Type}(l:List α)(n:Nat):List α:=Nat.rec (motive:=fun _=>List α) l (fun _ ih=>tl ih) n
theorem Ie {α:Type}(l:List α):∀n,Yv l n=l.drop n
 |0=>rfl
 |n+1=>by
  show tl (Yv l n)=_;rw[Q3,Ie l n,mκ]
def OY {α:Type}(l:List α)(n:Nat):List α:=Yv (IQ l (Nat.div n 16)) (Nat.mod n 16)
theorem OZ {α:Type}(l:List α)(n:Nat):OY l n=l.drop n:=by
 unfold OY;rw[Ie,xg,mκ];congr 1;exact Nat.div_add_mod n 16
def Y6 (d:D):Bool:=
 D.rec (motive_1:=fun _=>Bool) (motive_2:=fun _=>PUnit.{1})
  (fun _=>true) (fun _ _=>false) (fun _ _=>false) (fun _ _=>true) (fun _ _ _=>true) (fun _ _=>true) (fun _ _ _ _=>true) (fun _ _ _=>true) (fun _=>true) (fun _ _ _=>true) (fun _ _ _=>true) false ⟨⟩ (fun _ _ _ _=>⟨⟩) d
theorem Wy (d:D):Y6 d=cO d:=by cases d<;>rfl
def PD (xs:List D)(n:Nat):Bool:=
 List.rec (motive:=fun _=>Nat→Bool) (fun n=>Nat.rec (motive:=fun _=>Bool) true (fun _ _=>false) n) (fun d _ ih n=>Nat.rec (motive:=fun _=>Bool) false (fun m _=>Bool.rec (motive:=fun _=>Bool) false (ih m) (Y6 d)) n) xs n
theorem Ca:∀(xs:List D) (n:Nat),PD xs n=(Nat.beq xs.length n&&xs.all cO)
 |[],0=>rfl
 |[],n+1=>rfl
 |d::r,0=>rfl
 |d::r,n+1=>by
  show Bool.rec (motive:=fun _=>Bool) false (PD r n) (Y6 d)=(Nat.beq r.length n&&(cO d&&r.all cO));rw[Ca r n,Wy];cases cO d<;>simp
def PN {α:Type}(xs:List α)(n:Nat):Bool:=
 List.rec (motive:=fun _=>Nat→Bool) (fun n=>Nat.rec (motive:=fun _=>Bool) true (fun _ _=>false) n) (fun _ _ ih n=>Nat.rec (motive:=fun _=>Bool) true (fun m _=>ih m) n) xs n
theorem vu {α:Type}:∀(xs:List α) (n:Nat),PN xs n=Nat.ble n xs.length
 |[],0=>rfl
 |[],n+1=>rfl
 |d::r,0=>rfl
 |d::r,n+1=>vu r n
def Jp (xs:List D):List D→List D:=List.rec (motive:=fun _=>List D→List D) (fun cs=>cs) (fun x _ ih cs=>x::ih (tl cs)) xs
theorem Fm:∀(xs cs:List D),Jp xs cs=xs++cs.drop xs.length
 |[],cs=>rfl
 |x::r,cs=>by
  show x::Jp r (tl cs)=_;rw[Fm r,Q3,mκ];simp[Nat.add_comm]
def L5 (cs:List D)(off:Nat)(xs:List D):List D:=
 List.rec (motive:=fun _=>Nat→List D) (fun _=>xs) (fun c r ih off=>Nat.rec (motive:=fun _=>List D) (Jp xs (c::r)) (fun o _=>c::ih o) off) cs off
theorem CZ (xs:List D):∀(cs:List D) (off:Nat),L5 cs off xs=splice cs off xs
 |[],off=>by simp[L5,splice]
 |c::r,0=>by
  show Jp xs (c::r)=_;rw[Fm];simp[splice]
 |c::r,o+1=>by
  show c::L5 r o xs=_;rw[CZ xs r o];simp[splice,Nat.add_right_comm]
def Qc (cs:List Da):List D:=List.rec (motive:=fun _=>List D) [] (fun x _ ih=> .p x::ih) cs
theorem vy:∀cs,Qc cs=cs.map .p
 |[]=>rfl
 |c::r=>by show D.p c::Qc r=_;rw[vy r];rfl
def qN (d:D)(k:List D→R):R:=
 D.rec (motive_1:=fun _=>R) (motive_2:=fun _=>PUnit.{1})
  (fun x=>Da.rec (motive_1:=fun _=>R) (motive_2:=fun _=>PUnit.{1})
   (fun _=>k [d]) (fun _ _=>k [d]) (fun _=>k [d]) (fun cs _=>k (Qc cs)) (fun _ _ _=>k [d]) (k [d]) (fun _ _=>k [d]) (fun _ _ _ _=>k [d]) (k [d]) (fun _ _ _=>k [d]) (k [d]) (fun _ _ _=>k [d]) (k [d]) (fun _ _ _=>k [d]) (fun _ _=>k [d]) ⟨⟩ (fun _ _ _ _=>⟨⟩) x)
  (fun ds _=>k ds) (fun _ _=>k [d]) (fun _ _=>k [d]) (fun _ _ _=>k [d]) (fun _ _=>k [d]) (fun _ _ _ _=>k [d]) (fun _ _ _=>k [d]) (fun _=>k [d]) (fun _ _ _=>k [d]) (fun _ _ _=>k [d]) (k [d]) ⟨⟩ (fun _ _ _ _=>⟨⟩) d
theorem xe (d:D)(k:List D→R):qN d k=k (bk d):=by
 cases d<;>try rfl
 rename_i x;cases x<;>try rfl
 simp only[qN,vy,bk]
def NG (ds:List D)(e:R)(k:List Da→R):R:=
 List.rec (motive:=fun _=>(List Da→R)→R) (fun k=>k [])
  (fun d _ ih k=>fi d e fun x=>ih fun xs=>k (x::xs)) ds k
theorem DR (e:R):∀(ds:List D) (k:List Da→R),NG ds e k=match gp ds with
  |some xs=>k xs
  |none=>e
 |[],k=>rfl
 |d::r,k=>by
  cases d<;>try rfl
  rename_i x;show NG r e (fun xs=>k (x::xs))=_;rw[DR e r];simp only[gp];cases gp r<;>rfl
def CA (ds:List D)(k:D→R):R:=NG ds (k (.agg ds)) fun xs=>k (.p (.agg xs))
theorem Az (ds:List D)(k:D→R):CA ds k=k (xR ds):=by
 simp only[CA,DR,xR];cases gp ds<;>rfl
def PB (ps:List (Nat×Nat)):List D→List D→(List D→R)→R:=
 List.rec (motive:=fun _=>List D→List D→(List D→R)→R)
  (fun cs ds k=>List.rec (motive:=fun _=>R) (k cs) (fun _ _ _=>none) ds)
  (fun p _ ih cs ds k=>List.rec (motive:=fun _=>R) none (fun d ds _=>qN d fun xs=>pS (PD xs p.2) (pS (PN cs (Nat.add p.1 p.2)) (ih (L5 cs p.1 xs) ds k) none) none) ds) ps
theorem Es:∀(ps:List (Nat×Nat)) (cs ds:List D) (k:List D→R),PB ps cs ds k=caseO (oF cs ps ds) none k
 |[],cs,[],k=>rfl
 |[],cs,d::ds,k=>rfl
 |p::ps,cs,[],k=>rfl
 |(off,n)::ps,cs,d::ds,k=>by
  show qN d (fun xs=>pS (PD xs n) (pS (PN cs (Nat.add off n)) (PB ps (L5 cs off xs) ds k) none) none)=_
  simp only[xe,fF,Ca,vu,CZ,Es ps,oF];have:Nat.add off n=off+n:=rfl;rw[this];cases Nat.beq (bk d).length n<;>cases(bk d).all cO<;>cases Nat.ble (off+n) cs.length<;>rfl
def BR (zs:List D)(ps:List (Nat×Nat))(vs:List D)(k:D→R):R:=PB ps zs vs fun cs=>CA cs k
def Q1 {α:Type}(l:List α)(n:Nat)(k:List α→R):R:=
 List.rec (motive:=fun _=>Nat→(List α→R)→R) (fun n k=>Nat.rec (motive:=fun _=>R) (k []) (fun _ _=>none) n) (fun x _ ih n k=>Nat.rec (motive:=fun _=>R) (k []) (fun n _=>ih n fun r=>k (x::r)) n) l n k
theorem FN {α:Type}:∀(l:List α) (n:Nat) (k:List α→R),Q1 l n k=bif Nat.ble n l.length then k (l.take n)else none
 |[],0,k=>rfl
 |[],n+1,k=>rfl
 |x::r,0,k=>rfl
 |x::r,n+1,k=>by
  show Q1 r n (fun r=>k (x::r))=_;rw[FN r n];rfl
def Ia {α:Type}(l:List α)(off n:Nat)(k:List α→R):R:=pS (PN l off) (Q1 (Yv l off) n k) none
def qe (agg:Bool)(ds:List D)(k:D→R):R:=Bool.rec (motive:=fun _=>R) (List.rec (motive:=fun _=>R) none (fun d r _=>List.rec (motive:=fun _=>R) (k d) (fun _ _ _=>none) r) ds) (CA ds k) agg
theorem kO (agg:Bool)(ds:List D)(k:D→R):qe agg ds k=caseO (dz agg ds) none k:=by
 cases agg with
 |true=>simp only[qe,Az,dz,cond_true,caseO]
 |false=>
  match ds with
  |[]=>rfl
  |[d]=>rfl
  |_::_::_=>rfl
def Je (n:Nat)(agg:Bool)(d:D)(hp:List Ob)(e:R)(k:D→R):R:=
 D.rec (motive_1:=fun _=>R) (motive_2:=fun _=>PUnit.{1})
  (fun _=>e) (fun _ _=>none) (fun _ _=>none)
  (fun id off=>jL (Dg hp id) none fun cs=>Ia cs off n fun ds=>qe agg ds k)
  (fun _ _ _=>e)
  (fun x off=>Ia (cells x) off n fun xs=>qe agg (Qc xs) k)
  (fun _ _ _ _=>none) (fun _ _ _=>none) (fun _=>none) (fun _ _ _=>none) (fun _ _ _=>none) none ⟨⟩ (fun _ _ _ _=>⟨⟩) d
def PE (off n:Nat)(agg:Bool)(d:D)(k:D→R):R:=
 D.rec (motive_1:=fun _=>R) (motive_2:=fun _=>PUnit.{1})
  (fun x=>Da.rec (motive_1:=fun _=>R) (motive_2:=fun _=>PUnit.{1})
   (fun _=>none) (fun _ _=>none) (fun _=>none) (fun cs _=>Ia cs off n fun xs=>qe agg (Qc xs) k) (fun _ _ _=>none) none (fun _ _=>none) (fun _ _ _ _=>none) none (fun _ _ _=>none) none (fun _ _ _=>none) none (fun _ _ _=>none) (fun _ _=>none) ⟨⟩ (fun _ _ _ _=>⟨⟩) x)
  (fun ds _=>Ia ds off n fun ds=>qe agg ds k) (fun _ _=>none) (fun _ _=>none) (fun _ _ _=>none) (fun _ _=>none) (fun _ _ _ _=>none) (fun _ _ _=>none) (fun _=>none) (fun _ _ _=>none) (fun _ _ _=>none) none ⟨⟩ (fun _ _ _ _=>⟨⟩) d
def BO (base kk:Nat)(zs:List D)(hp:List Ob)(k:KV):R:=
 forceN (Nat.add base kk) fun id=>X8 (Dg hp id) (zE hp id (.box zs) fun hp=>k (.box id 0) hp)
def R6 (base:Nat)(n kk:Nat)(d:D)(hp:List Ob)(k:KV):R:=
 forceN (Nat.add base kk) fun id=>X8 (Dg hp id) (forceDs (bk d) fun cs=>pS ((bif Nat.beq n 1000003 then Nat.beq cs.length 3 else Nat.beq cs.length n&&!b3 cs)&&cs.all cO) (zE hp id (.box cs) fun hp=>k (.box id 0) hp) none)
def H7 (n:Nat)(a d:D)(hp:List Ob)(e:R)(k:KV):R:=
 D.rec (motive_1:=fun _=>R) (motive_2:=fun _=>PUnit.{1})
  (fun _=>none) (fun _ _=>none) (fun _ _=>none)
  (fun id off=>jL (Dg hp id) none fun cs=>qN d fun xs=>pS (PD xs n) (pS (PN cs (Nat.add off n)) (forceDs (L5 cs off xs) fun cs1=>pS (b3 cs1&&!b3 cs) none (zE hp id (.box cs1) fun hp=>k .junk hp)) none) none)
  (fun _ _ _=>e) (fun _ _=>none)
  (fun _ _ _ _=>none) (fun _ _ _=>none) (fun _=>none) (fun _ _ _=>none) (fun _ _ _=>none) none ⟨⟩ (fun _ _ _ _=>⟨⟩) a
section eqs
variable {call:aG} {base kk:Nat} {hp:List Ob} {k:KV}
theorem Kp (zs:List D):df call base (.alloc zs) kk [] hp k=BO base kk zs hp k:=by
 simp only[BO,iR,Ij,rF,kh];rfl
theorem R7 (n:Nat)(d:D):df call base (.box n) kk [d] hp k=R6 base n kk d hp k:=by
 simp only[R6,iR,Ij,rF,kh,fE,fF];show(bif cf (aP hp (base+kk))then match Nu n base kk [d]with
  |none=>none
  |some (v,ups,new)=>k v (grow (ao hp ups) new)else none)=_
 simp only[Nu];have:aP hp (base+kk)=hp.getD (Nat.add base kk) .dead:=rfl;rw[this];cases cf (hp.getD (Nat.add base kk) .dead)
 ·rfl
 ·simp only[cond_true];cases((bif Nat.beq n 1000003 then Nat.beq (bk d).length 3 else Nat.beq (bk d).length n&&!b3 (bk d))&&(bk d).all cO)<;>rfl
theorem Mb (n:Nat)(a d:D):df call base (.store n) kk [a,d] hp k=H7 n a d hp (df call base (.store n) kk [a,d] hp k) k:=by
 cases a<;>try rfl
 rename_i id off;simp only[H7,rF,kh,fE,fF,xe,Ca,vu,CZ];have hn:bj (.store n) [.box id off,d] hp=id::(dids d++[]):=rfl;have hl:ep ((id::(dids d++[])).zip ((id::(dids d++[])).map (aP hp))) id=aP hp id:=by
  simp only[List.map_cons,List.zip_cons_cons,ep,show Nat.beq id id=true from Nat.beq_refl id,cond_true]
 simp only[df,cr,Bool.not_false,Bool.true_or,cond_true,k8,lM,hn,hl];have:aP hp id=hp.getD id .dead:=rfl;rw[this];cases hp.getD id .dead<;>try rfl
 rename_i cs;have h2:Nat.add off n=off+n:=rfl;simp only[jL,h2];cases Nat.beq (bk d).length n<;>cases(bk d).all cO<;>cases Nat.ble (off+n) cs.length<;>first|rfl|(simp only[Bool.and_self,cond_true,Bool.true_and,Bool.and_true];cases(b3 (splice cs off (bk d))&&!b3 cs)<;>rfl)
theorem rI {α:Type}(l:List α)(off n:Nat)(f:List α→R):Ia l off n f=caseO (sub l off n) none f:=by
 unfold Ia sub;rw[fF,vu,Ie,FN,lτ];cases h:Nat.ble (off+n) l.length
 ·cases h1:Nat.ble off l.length
  ·rfl
  ·have:Nat.ble n (l.length - off)=false:=by
    rw[←Bool.not_eq_true,Nat.ble_eq]at h ⊢
    have:=Nat.le_of_ble_eq_true h1;omega
   rw[this];rfl
 ·have:=Nat.le_of_ble_eq_true h;rw[Nat.ble_eq.mpr (by omega:off≤l.length),Nat.ble_eq.mpr (by omega:n≤l.length - off)];rfl
theorem Qa (n:Nat)(agg:Bool)(x:D):df call base (.load n agg) kk [x] hp k=Je n agg x hp (ii (fK n agg [x] ((dids x).map (aP hp))) fun v=>k v hp) fun v=>k v hp:=by
 rw[bP rfl];cases x<;>try rfl
 ·rename_i id off;show ii (fK n agg [.box id off] [aP hp id]) (fun v=>k v hp)=_;simp only[Je,fK,kh,rI,kO];have:aP hp id=hp.getD id .dead:=rfl;rw[this];cases hp.getD id .dead<;>try rfl
  rename_i cs;simp only[jL];cases sub cs off n with
  |none=>rfl
  |some ds=>
   simp only[caseO];cases dz agg ds<;>rfl
 ·rename_i x off;show ii (fK n agg [.ip x off] []) (fun v=>k v hp)=_;simp only[Je,fK,rI,kO,vy];cases sub (cells x) off n with
  |none=>rfl
  |some ds=>
   simp only[caseO];cases dz agg (ds.map .p)<;>rfl
theorem TZ {α β:Type}(f:α→β)(l:List α)(off n:Nat):sub (l.map f) off n=(sub l off n).map (List.map f):=by
 unfold sub;rw[lθ];cases Nat.ble (off+n) l.length
 ·rfl
 ·simp[List.map_drop,List.map_take]
theorem S8 (off n:Nat)(agg:Bool)(x:D):df call base (.fld off n agg) kk [x] hp k=PE off n agg x fun v=>k v hp:=by
 rw[bP rfl];show ii (DK off n agg [x]) (fun v=>k v hp)=_;cases x<;>try rfl
 ·rename_i x;cases x<;>try rfl
  rename_i cs;simp only[DK,PE,rI,kO,vy,TZ];cases sub cs off n with
  |none=>rfl
  |some ds=>
   simp only[Option.map_some,caseO];cases dz agg (ds.map .p)<;>rfl
 ·rename_i cs;simp only[DK,PE,rI,kO];cases sub cs off n with
  |none=>rfl
  |some ds=>
   simp only[caseO];cases dz agg ds<;>rfl
theorem Kw (zs:List D)(ps:List (Nat×Nat))(vs:List D):df call base (.build zs ps) kk vs hp k=BR zs ps vs fun v=>k v hp:=by
 rw[bP rfl];show ii (pD zs ps vs) (fun v=>k v hp)=_;simp only[pD,BR,Es,Az];cases oF zs ps vs<;>rfl
end eqs
def Uz (n:Nat)(agg:Bool)(x:D)(hp:List Ob)(k:D→R):R:=Je n agg x hp (ii (fK n agg [x] ((dids x).map (aP hp))) k) k
def C0 (call:aG)(base n kk:Nat)(a d:D)(hp:List Ob)(k:KV):R:=
 H7 n a d hp (df call base (.store n) kk [a,d] hp fun v hp=>vr hp fun hp=>k v hp) k
def PG (call:aG)(base:Nat)(o:O)(kk:Nat)(vs:List D)(hp:List Ob)(k:KV):R:=
 df call base o kk vs hp fun v hp=>gH v fun v=>vr hp fun hp=>k v hp
theorem Cg (call:aG)(base:Nat)(o:O)(kk:Nat)(vs:List D)(hp:List Ob)(k:KV):PG call base o kk vs hp k=df call base o kk vs hp k:=by
 simp only[PG,kE,pP]
theorem L8 (call:aG)(base n kk:Nat)(a d:D)(hp:List Ob)(k:KV):C0 call base n kk a d hp k=df call base (.store n) kk [a,d] hp k:=by
 simp only[C0,pP];exact(Mb n a d).symm
def CX (lo hi:Bool)(x:D)(xs:List D)(k:D→R):R:=
 fi x none fun x=>lP x none fun s=>caseO (bN lo hi false (EQ s) xs) none fun b=>JD (OY s b.1) (Nat.sub b.2.1 b.1) fun r=>k (.p (.str r))
theorem L4 {call:aG}{base kk:Nat}{hp:List Ob}{k:KV}(lo hi:Bool)(x:D)(xs:List D):df call base (.slStr lo hi) kk (x::xs) hp k=CX lo hi x xs fun v=>k v hp:=by
 rw[bP rfl];show ii (lL lo hi (x::xs)) (fun v=>k v hp)=_;cases x<;>try rfl
 rename_i x;cases x<;>try rfl
 rename_i s;simp only[lL,CX,fi,lP,FM,OZ,jQ];cases bN lo hi false s.length xs with
 |none=>rfl
 |some b=>rfl
def vh (es:List Da)(n:Nat)(ys:List Da)(e:R)(k:List Da→R):R:=
 List.rec (motive:=fun _=>Nat→(List Da→R)→R) (fun n k=>Nat.rec (motive:=fun _=>R) (k ys) (fun _ _=>e) n) (fun x _ ih n k=>Nat.rec (motive:=fun _=>R) (k ys) (fun m _=>ih m fun r=>k (x::r)) n) es n k
theorem wR (ys:List Da)(e:R):∀(es:List Da) (n:Nat) (k:List Da→R),vh es n ys e k=bif Nat.ble n es.length then k (es.take n++ys)else e
 |[],0,k=>rfl
 |[],n+1,k=>rfl
 |x::r,0,k=>rfl
 |x::r,n+1,k=>by
  show vh r n ys e (fun r=>k (x::r))=_;rw[wR ys e r];rfl
def IK (o:Ob)(e:R)(k:List Da→R):R:=
 Ob.rec (motive:=fun _=>R) (fun _=>e) (fun es=>k es) (fun _=>e) (fun _ _=>e) (fun _ _=>e) e e (fun _ _=>e) (fun _=>e) o
def yK (esz:Nat)(b:D)(e:R)(k:List Da→R):R:=
 D.rec (motive_1:=fun _=>R) (motive_2:=fun _=>PUnit.{1})
  (fun x=>gB x e fun z es=>pS (Nat.beq z esz) (k es) e) (fun _ _=>e) (fun _ _=>e) (fun _ _=>e) (fun _ _ _=>e) (fun _ _=>e) (fun _ _ _ _=>e) (fun _ z es=>pS (Nat.beq z esz) (k es) e) (fun _=>e) (fun _ _ _=>e) (fun _ _ _=>e) e ⟨⟩ (fun _ _ _ _=>⟨⟩) b
theorem Yf (esz:Nat)(b:D)(os:List (Nat×Ob))(e:R)(k:List Da→R):yK esz b e k=e∨∃ys,elems esz os b=some ys∧yK esz b e k=k ys:=by
 cases b<;>try exact .inl rfl
 ·rename_i x;cases x<;>try exact .inl rfl
  all_goals
   rename_i z es;simp only[yK,gB,fF,elems,nU,yU];cases Nat.beq z esz
   ·exact .inl rfl
   ·exact .inr ⟨es,rfl,rfl⟩
 ·rename_i g z es;simp only[yK,fF,elems,nU,yU];cases Nat.beq z esz
  ·exact .inl rfl
  ·exact .inr ⟨es,rfl,rfl⟩
def Vn (esz bytes base kk:Nat)(a b:D)(hp:List Ob)(e:R)(k:KV):R:=
 D.rec (motive_1:=fun _=>R) (motive_2:=fun _=>PUnit.{1})
  (fun _=>e) (fun _ _=>e) (fun _ _=>e) (fun _ _=>e) (fun _ _ _=>e) (fun _ _=>e)
  (fun id lo len z=>Nat.rec (motive:=fun _=>R) (pS (Nat.beq z esz) (IK (Dg hp id) e fun es=>yK esz b e fun ys=>vh es len ys e fun zs=>
   forceN (Nat.add len (EQ ys)) fun l=>pS (Nat.ble (Nat.mul (Nat.add (Nat.mul 2 l) 192) bytes) 281474976710656) (pS (Nat.ble (Nat.add (Nat.mul 2 l) 192) 9223372036854775807)
    (forceN (Nat.add base kk) fun i=>X8 (Dg hp i) (zE hp id .dead fun hp=>zE hp i (.arr zs) fun hp=>k (.arr i 0 l esz) hp)) none) none) e) (fun _ _=>e) lo)
  (fun _ _ _=>e) (fun _=>e) (fun _ _ _=>e) (fun _ _ _=>e) e ⟨⟩ (fun _ _ _ _=>⟨⟩) a
theorem RX {call:aG}{base kk:Nat}{hp:List Ob}{k:KV}(esz bytes:Nat)(a b:D):df call base (.app esz bytes) kk [a,b] hp k=Vn esz bytes base kk a b hp (df call base (.app esz bytes) kk [a,b] hp k) k:=by
 cases a<;>try rfl
 rename_i id lo len z;cases lo with
 |succ lo=>rfl
 |zero=>
  simp only[Vn,fF];cases hz:Nat.beq z esz
  ·rfl
  ·have ho:aP hp id=Dg hp id:=(kh hp id).symm;cases hob:Dg hp id<;>try rfl
   rename_i es;simp only[cond_true,IK];have hn:bj (.app esz bytes) [.arr id 0 len z,b] hp=id::(dids b++[]):=rfl;have hl:ep ((id::(dids b++[])).zip ((id::(dids b++[])).map (aP hp))) id= .arr es:=by
    simp only[List.map_cons,List.zip_cons_cons,ep,show Nat.beq id id=true from Nat.beq_refl id,cond_true,ho,hob]
   rcases Yf esz b ((id::(dids b++[])).zip ((id::(dids b++[])).map (aP hp))) (df call base (.app esz bytes) kk [.arr id 0 len z,b] hp k) (fun ys=>vh es len ys (df call base (.app esz bytes) kk [.arr id 0 len z,b] hp k) fun zs=>
   forceN (Nat.add len (EQ ys)) fun l=>bif Nat.ble (Nat.mul (Nat.add (Nat.mul 2 l) 192) bytes) 281474976710656 then bif Nat.ble (Nat.add (Nat.mul 2 l) 192) 9223372036854775807 then
    (forceN (Nat.add base kk) fun i=>X8 (Dg hp i) (zE hp id .dead fun hp=>zE hp i (.arr zs) fun hp=>k (.arr i 0 l esz) hp))else none else none)with hy|⟨ys,hy1,hy2⟩
   ·exact hy.symm
   ·rw[hy2,wR];cases hle:Nat.ble len es.length
    ·rfl
    ·have hle':=Nat.le_of_ble_eq_true hle;have hlen:(es.take len).length=len:=by simp[hle']
     simp only[cond_true,iR,rF,Ij,kh,jQ];simp only[df,cr,Bool.not_true,Bool.false_or,k8,pC,hn,kD,hl,hz,cond_true,List.drop_zero,hy1,hlen,List.isEmpty_cons,Bool.false_and,cond_false];have e1:aP hp (base+kk)=hp.getD (Nat.add base kk) .dead:=rfl;rw[e1];have e2:(2*(len+ys.length)+192)*bytes=Nat.mul (Nat.add (Nat.mul 2 (Nat.add len ys.length)) 192) bytes:=rfl;have e3:2*(len+ys.length)+192=Nat.add (Nat.mul 2 (Nat.add len ys.length)) 192:=rfl;rw[e2,e3];cases cf (hp.getD (Nat.add base kk) .dead)<;>cases Nat.ble (Nat.mul (Nat.add (Nat.mul 2 (Nat.add len ys.length)) 192) bytes) 281474976710656<;>cases Nat.ble (Nat.add (Nat.mul 2 (Nat.add len ys.length)) 192) 9223372036854775807<;>rfl
def RT (call:aG)(base esz bytes kk:Nat)(a b:D)(hp:List Ob)(k:KV):R:=
 Vn esz bytes base kk a b hp (PG call base (.app esz bytes) kk [a,b] hp k) k
theorem RU (call:aG)(base esz bytes kk:Nat)(a b:D)(hp:List Ob)(k:KV):RT call base esz bytes kk a b hp k=df call base (.app esz bytes) kk [a,b] hp k:=by
 unfold RT;rw[Cg];exact(RX esz bytes a b).symm
def NT (esz:Nat)(d:D)(e:R)(k:D→R):R:=fi d e fun x=>pS (Nat.beq (EQ (cells x)) esz) (k (.sl .exact esz [x])) none
theorem NU {call:aG}{base kk:Nat}{hp:List Ob}{k:KV}(esz:Nat)(z:Da)(d:D):df call base (.bsl esz z 1 [0]) kk [d] hp k=NT esz d (df call base (.bsl esz z 1 [0]) kk [d] hp k) fun v=>k v hp:=by
 cases d<;>try rfl
 rename_i x;simp only[NT,fi,fF,jQ];have:df call base (.bsl esz z 1 [0]) kk [.p x] hp k=match Km esz z 1 [0] [.p x] [] []with
  |none=>none
  |some (v,ups,new)=>k v (grow (ao hp ups) new):=rfl
 rw[this];simp only[Km,pur.purL,pur,List.all_cons,List.all_nil,Bool.and_true];cases Nat.beq (cells x).length esz
 ·rfl
 ·rfl
def NR (call:aG)(base esz:Nat)(z:Da)(kk:Nat)(d:D)(hp:List Ob)(k:KV):R:=NT esz d (PG call base (.bsl esz z 1 [0]) kk [d] hp k) fun v=>k v hp
theorem NS (call:aG)(base esz:Nat)(z:Da)(kk:Nat)(d:D)(hp:List Ob)(k:KV):NR call base esz z kk d hp k=df call base (.bsl esz z 1 [0]) kk [d] hp k:=by
 unfold NR;rw[Cg];exact(NU esz z d).symm
def nA (d:D)(k:D→R):R:=
 D.rec (motive_1:=fun _=>R) (motive_2:=fun _=>PUnit.{1})
  (fun x=>Da.rec (motive_1:=fun _=>R) (motive_2:=fun _=>PUnit.{1})
   (fun b=>Bool.rec (motive:=fun _=>R) (k (.p (.bool false))) (k (.p (.bool true))) b) (fun i n=>Cb n fun n=>k (.p (.int i n))) (fun s=>forceNs s fun s=>k (.p (.str s))) (fun cs _=>qY cs fun cs=>k (.p (.agg cs))) (fun z es _=>qY es fun es=>k (.p (.slice z es))) (k d) (fun _ _=>k d) (fun _ _ _ _=>k d) (k d) (fun _ _ _=>k d) (k d) (fun _ _ _=>k d) (k d) (fun _ _ _=>k d) (fun _ _=>k d) ⟨⟩ (fun _ _ _ _=>⟨⟩) x)
  (fun cs _=>k (.agg cs)) (fun ds _=>forceDs ds fun ds=>k (.tup ds)) (fun _ _=>gH d k) (fun _ _ _=>gH d k) (fun _ _=>k d)
  (fun _ _ _ _=>gH d k) (fun _ _ _=>k d) (fun _=>gH d k) (fun _ _ _=>k d) (fun _ _ _=>k d) (k d) ⟨⟩ (fun _ _ _ _=>⟨⟩) d
theorem K6 (d:D)(k:D→R):nA d k=k d:=by
 cases d<;>(try rfl)<;>(try (simp only[nA,kE];done))
 ·rename_i x;cases x<;>try rfl
  ·rename_i b;cases b<;>rfl
  ·simp only[nA,Aj]
  ·simp only[nA,jo]
  ·simp only[nA,lS]
  ·simp only[nA,lS]
 ·simp only[nA,fE]
end
end Go.Ab
end
section
namespace Go.Ab
open Go
noncomputable section
def nJ (vs:List D)(e:R)(k:List D→R):R:=
 List.rec (motive:=fun _=>(List D→R)→R) (fun k=>k [])
  (fun d _ ih k=>D.rec (motive_1:=fun _=>R) (motive_2:=fun _=>PUnit.{1})
   (fun x=>ih fun xs=>k (.p x::xs)) (fun _ _=>e) (fun _ _=>e) (fun _ _=>e) (fun _ _ _=>e) (fun _ _=>e) (fun _ _ _ _=>e) (fun _ _ _=>e) (fun _=>e) (fun _ _ _=>e) (fun _ _ _=>e) e ⟨⟩ (fun _ _ _ _=>⟨⟩) d) vs k
def Ju (r:D)(e:R)(k:D→R):R:=
 D.rec (motive_1:=fun _=>R) (motive_2:=fun _=>PUnit.{1})
  (fun x=>k (.p x)) (fun _ _=>e) (fun ds _=>nJ ds e fun ds=>k (.tup ds)) (fun _ _=>e) (fun _ _ _=>e) (fun _ _=>e) (fun _ _ _ _=>e) (fun _ _ _=>e) (fun _=>e) (fun _ _ _=>e) (fun _ _ _=>e) e ⟨⟩ (fun _ _ _ _=>⟨⟩) r
def FY:D→Bool
 | .p _=>true
 |_=>false
theorem hP (e:R):∀(vs:List D) (k:List D→R),nJ vs e k=bif vs.all FY then k vs else e
 |[],k=>rfl
 |d::r,k=>by
  cases d<;>try rfl
  rename_i x;show nJ r e (fun xs=>k (.p x::xs))=_;rw[hP e r];rfl
def yk:D→Bool
 | .p _=>true
 | .tup ds=>ds.all FY
 |_=>false
theorem yl (r:D)(e:R)(k:D→R):Ju r e k=bif yk r then k r else e:=by
 cases r<;>try rfl
 exact hP _ _ _
theorem oa:∀{vs:List D},vs.all FY=true→dids.didsL vs=[]
 |[],_=>rfl
 |d::r,h=>by
  simp only[List.all_cons,lγ]at h;cases d<;>simp only[FY,Bool.false_eq_true,false_and]at h;simp only[dids.didsL,dids,oa h.2,mα]
theorem tf (σ:Nat→Option Nat):∀{vs:List D},vs.all FY=true→mapD.mapDL σ vs=vs
 |[],_=>rfl
 |d::r,h=>by
  simp only[List.all_cons,lγ]at h;cases d<;>simp only[FY,Bool.false_eq_true,false_and]at h;simp only[mapD.mapDL,mapD,tf σ h.2]
theorem tg (σ:Nat→Option Nat){d:D}(h:yk d=true):mapD σ d=d:=by
 cases d<;>simp only[yk,Bool.false_eq_true]at h
 ·rfl
 ·simp only[mapD,tf σ h]
theorem tj:∀{vs:List D},vs.all FY=true→vs.map norm=vs
 |[],_=>rfl
 |d::r,h=>by
  simp only[List.all_cons,lγ]at h;cases d<;>simp only[FY,Bool.false_eq_true,false_and]at h;simp only[List.map_cons,norm,tj h.2]
def OB (call:aG)(f:Nat)(args:List D)(e:R)(k:D→R):R:=
 caseO (call f args []) none fun ro=>Prod.rec (motive:=fun _=>R) (fun r out=>List.rec (motive:=fun _=>R) (Ju r e k) (fun _ _ _=>e) out) ro
def zY (call:aG)(f:Nat)(raw:Bool)(vs:List D)(hp:List Ob)(e:R)(k:D→R):R:=
 nJ vs e fun vs=>OB call f vs e k
theorem tW {call:aG}{f:Nat}{vs:List D}{len:Nat}(h:vs.all FY=true):eg call f vs [] [] len=match call f vs []with
  |none=>none
  |some (r,out)=>some (mapD (back 0 len [] out.length) r,[],out.map (bL (back 0 len [] out.length))):=by
 unfold eg;rw[tf _ h];show(match call f vs []with|none=>none|some (r,out)=>_)=_;cases call f vs []with
 |none=>rfl
 |some p=>obtain⟨r,out⟩:=p;simp[Nat.ble]
abbrev KF:=D→List Ob→dC→R
section eqs
variable {call:aG} {base kk:Nat} {hp:List Ob} {k:KV}
theorem n8 (hp:List Ob)(n:Nat)(acc:List Nat):close hp n [] acc=acc:=by cases n<;>rfl
theorem KC {f:Nat}{raw:Bool}{vs:List D}(h:vs.all FY=true):df call base (.call f raw) kk vs hp k=match call f vs []with
  |none=>none
  |some (r,out)=>k (mapD (back 0 hp.length [] out.length) r) (grow hp (out.map (bL (back 0 hp.length [] out.length)))):=by
 have hn:bj (.call f raw) vs hp=[]:=by simp only[bj,oa h,n8]
 have ha:(bif raw then vs else vs.map norm)=vs:=by cases raw<;>simp[tj h]
 simp only[df,cr,Bool.not_false,Bool.true_or,cond_true,hn,List.map_nil,k8,ha,tW h];cases call f vs []with
 |none=>rfl
 |some p=>rfl
theorem OC (f:Nat)(raw:Bool)(vs:List D):df call base (.call f raw) kk vs hp k=zY call f raw vs hp (df call base (.call f raw) kk vs hp k) fun v=>k v hp:=by
 unfold zY;rw[hP];cases h:vs.all FY
 ·rfl
 ·rw[cond_true,KC h];unfold OB;cases hc:call f vs []with
  |none=>rfl
  |some p=>
   obtain⟨r,out⟩:=p;cases out with
   |cons o out=>rfl
   |nil=>
    simp only[caseO,yl];cases hr:yk r
    ·rfl
    ·simp only[cond_true,List.length_nil,List.map_nil];rw[tg _ hr];rfl
end eqs
def z6 (call:aG)(f:Nat)(raw:Bool)(vs:List D)(hp:List Ob)(k:KF):R:=
 forceNs (eC hp aX (dN vs []) []) fun ids=>
  forceDs (eZ (ik ids) (Bool.rec (motive:=fun _=>List D) (vs.map norm) vs raw)) fun args=>forceHb (lZ ids hp) fun hp'=>
   caseO (call f args hp') none fun ro=>Prod.rec (motive:=fun _=>R) (fun r out=>pS (Nat.ble ids.length out.length)
    (gH (gc (back ids.length hp.length ids out.length) r) fun v=>forceHb (ml (back ids.length hp.length ids out.length) out) fun out'=>
     forceHb (grow (ao hp (ids.zip out')) (out'.drop ids.length)) fun hp2=>k v hp2 ⟨ids,jW ids hp (ids.zip out'),!(out'.drop ids.length).isEmpty,hp.length⟩) none) ro
theorem D1 {call:aG}{base kk:Nat}{hp:List Ob}{k:KF}(f:Nat)(raw:Bool)(vs:List D):z6 call f raw vs hp k=bif !(cr (.call f raw))||cf (aP hp (base+kk))then
  match k8 call base (.call f raw) kk vs (bj (.call f raw) vs hp) ((bj (.call f raw) vs hp).map (aP hp)) hp.length with
  |none=>none
  |some (v,ups,new)=>k v (grow (ao hp ups) new) ⟨bif cr (.call f raw)then(base+kk)::bj (.call f raw) vs hp else bj (.call f raw) vs hp,jW (bj (.call f raw) vs hp) hp ups,!new.isEmpty,hp.length⟩
 else none:=by
 have hn:bj (.call f raw) vs hp=close hp aX (dids.didsL vs) []:=rfl;simp only[z6,jo,fE,jn,kE,cP,du,mα,gJ,iI,jz,fk,kI,fF,cr,Bool.not_false,Bool.true_or,cond_true,cond_false,k8,eg,hn];have e:(List.map (bL (idx (close hp aX (dids.didsL vs) []))) (List.map (aP hp) (close hp aX (dids.didsL vs) [])))=bB (close hp aX (dids.didsL vs) []) hp:=by
  simp only[bB,List.map_map];rfl
 have e2:(bif raw then vs else List.map norm vs)=Bool.rec (motive:=fun _=>List D) (vs.map norm) vs raw:=by cases raw<;>rfl
 rw[e,e2];cases call f (mapD.mapDL (idx (close hp aX (dids.didsL vs) [])) (Bool.rec (motive:=fun _=>List D) (vs.map norm) vs raw)) (bB (close hp aX (dids.didsL vs) []) hp)with
 |none=>rfl
 |some p=>
  obtain⟨r,out⟩:=p;simp only[caseO];cases Nat.ble (close hp aX (dids.didsL vs) []).length out.length<;>rfl
def II (call:aG)(f:Nat)(raw:Bool)(vs:List D)(hp:List Ob)(k:KV):R:=
 zY call f raw vs hp (z6 call f raw vs hp fun v hp _=>k v hp) fun v=>k v hp
theorem Oy {call:aG}{base kk:Nat}{hp:List Ob}{k:KV}(f:Nat)(raw:Bool)(vs:List D):df call base (.call f raw) kk vs hp k=II call f raw vs hp k:=by
 rw[OC];unfold II;rw[D1 (base:=base) (kk:=kk)];rfl
def Zs (esz:Nat)(x i:D)(k:D→R):R:=Y1 esz x i (ii (IA esz [x,i]) k) k
def Zq (off:Nat)(x:D)(k:D→R):R:=Zr off x (ii (Vg off [x]) k) k
def Qm (x:D)(k:D→R):R:=Qn x (ii (pE [x]) k) k
def XE (kd:Nat)(x:D)(hp:List Ob)(k:D→R):R:=Wn kd x (ii (Kn kd [x] (bj (.len kd) [x] hp) ((bj (.len kd) [x] hp).map (aP hp))) k) k
def P7 (x:D)(hp:List Ob)(k:D→R):R:=Cy x hp (ii (fK 1 false [x] ((dids x).map (aP hp))) k) k
def Ux (o:O)(vs:List D)(hp:List Ob):dC:=⟨bj o vs hp,[],false,hp.length⟩
def Xu (hp:List Ob):dC:=⟨[],[],false,hp.length⟩
def Lc (call:aG)(base:Nat)(o:O)(kk:Nat)(vs:List D)(hp:List Ob)(k:KV):R:=
 match o,vs with
 | .mv,[a]=>k a hp
 | .pick,[c,a,b]=>QD c a b fun v=>k v hp
 | .bin op,[x,y]=>RZ op x y fun v=>k v hp
 | .un .not,[x]=>Ww x fun v=>k v hp
 | .ia esz,[x,i]=>Zs esz x i fun v=>k v hp
 | .ix,[x,i]=>Yp x i fun v=>k v hp
 | .fa off,[x]=>Zq off x fun v=>k v hp
 | .nilck,[x]=>Qm x fun v=>k v hp
 | .ext i,[x]=>S4 i x fun v=>k v hp
 | .len kd,[x]=>XE kd x hp fun v=>k v hp
 | .load 1 false,[x]=>P7 x hp fun v=>k v hp
 | .call f raw,vs=>II call f raw vs hp k
 | .alloc zs,[]=>BO base kk zs hp k
 | .box n,[d]=>R6 base n kk d hp k
 | .store n,[a,d]=>C0 call base n kk a d hp k
 | .slStr lo hi,x::xs=>CX lo hi x xs fun v=>k v hp
 | .load n agg,[x]=>Uz n agg x hp fun v=>k v hp
 | .fld off n agg,[x]=>PE off n agg x fun v=>k v hp
 | .build zs ps,vs=>BR zs ps vs fun v=>k v hp
 | .app esz bytes,[a,b]=>RT call base esz bytes kk a b hp k
 | .bsl esz z 1 [0],[d]=>NR call base esz z kk d hp k
 |o,vs=>match kT o with
  |true=>df call base o kk vs hp k
  |false=>PG call base o kk vs hp k
theorem PV (call:aG)(base:Nat)(o:O)(kk:Nat)(vs:List D)(hp:List Ob)(k:KV):Lc call base o kk vs hp k=df call base o kk vs hp k:=by
 unfold Lc;split
 ·rfl
 ·exact(QG _ _ _).symm
 ·exact(R3 _ _ _).symm
 ·exact(TF _).symm
 ·exact(Wf _ _ _).symm
 ·exact(Wk _ _).symm
 ·exact(V8 _ _).symm
 ·exact(Lt _).symm
 ·exact(S5 _ _).symm
 ·exact(Tv _ _).symm
 ·exact(Lq _).symm
 ·exact(Oy _ _ _).symm
 ·exact(Kp _).symm
 ·exact(R7 _ _).symm
 ·exact L8 _ _ _ _ _ _ _ _
 ·exact(L4 _ _ _ _).symm
 ·exact(Qa _ _ _).symm
 ·exact(S8 _ _ _ _).symm
 ·exact(Kw _ _ _).symm
 ·exact RU _ _ _ _ _ _ _ _ _
 ·exact NS _ _ _ _ _ _ _ _
 ·split
  ·rfl
  ·exact Cg _ _ _ _ _ _ _
def Cf (call:aG)(base:Nat)(o:O)(kk:Nat)(vs:List D)(hp:List Ob)(k:KF):R:=
 bif !(cr o)||cf (aP hp (base+kk))then
  match k8 call base o kk vs (bj o vs hp) ((bj o vs hp).map (aP hp)) hp.length with
  |none=>none
  |some (v,ups,new)=>k v (grow (ao hp ups) new) ⟨bif cr o then(base+kk)::bj o vs hp else bj o vs hp,jW (bj o vs hp) hp ups,!new.isEmpty,hp.length⟩
 else none
def DZ (call:aG)(f:Nat)(raw:Bool)(vs:List D)(hp:List Ob)(k:KF):R:=
 zY call f raw vs hp (z6 call f raw vs hp k) fun v=>k v hp (Xu hp)
theorem Ox {call:aG}{base kk:Nat}{hp:List Ob}{k:KF}(f:Nat)(raw:Bool)(vs:List D):Cf call base (.call f raw) kk vs hp k=DZ call f raw vs hp k:=by
 unfold DZ zY;rw[hP,D1 (base:=base) (kk:=kk)];cases h:vs.all FY
 ·rfl
 ·have hn:bj (.call f raw) vs hp=[]:=by simp only[bj,oa h,n8]
  have ha:(bif raw then vs else vs.map norm)=vs:=by cases raw<;>simp[tj h]
  rw[cond_true];simp only[Cf,cr,Bool.not_false,Bool.true_or,cond_true,cond_false,hn,List.map_nil,k8,ha,tW h];unfold OB;cases hc:call f vs []with
  |none=>rfl
  |some p=>
   obtain⟨r,out⟩:=p;cases out with
   |cons o out=>rfl
   |nil=>
    simp only[caseO,yl];cases hr:yk r
    ·rfl
    ·simp only[cond_true,List.length_nil,List.map_nil];rw[tg _ hr];rfl
def uL (call:aG)(base:Nat)(o:O)(kk:Nat)(vs:List D)(hp:List Ob)(k:KF):R:=
 match o with
 | .call f raw=>DZ call f raw vs hp k
 |o=>match kT o with
  |true=>Lc call base o kk vs hp fun v hp'=>k v hp' (Ux o vs hp)
  |false=>Cf call base o kk vs hp k
theorem Tn (call:aG)(base:Nat)(o:O)(kk:Nat)(vs:List D)(hp:List Ob)(k:KF):uL call base o kk vs hp k=Cf call base o kk vs hp k:=by
 unfold uL;split
 ·exact(Ox _ _ _).symm
 ·split
  ·rename_i hs;rw[PV,bP hs];have hq:=ul (call:=call) (base:=base) (kk:=kk) (vs:=vs) (ids:=bj o vs hp) (obs:=(bj o vs hp).map (aP hp)) (len:=hp.length) hs;simp only[Cf,uk hs,Bool.not_false,Bool.true_or,cond_true,cond_false];cases ha:k8 call base o kk vs (bj o vs hp) ((bj o vs hp).map (aP hp)) hp.length with
   |none=>rfl
   |some e=>
    obtain⟨v,ups,new⟩:=e;have:=hq _ ha;simp only[lκ]at this;obtain⟨rfl,rfl⟩:=this;rfl
  ·rfl
def Cj (d:D)(want:Bool)(t e:R):R:=
 D.rec (motive_1:=fun _=>R) (motive_2:=fun _=>PUnit.{1})
  (fun x=>qK x none (Bool.rec (motive:=fun _=>R) e t want) (Bool.rec (motive:=fun _=>R) t e want))
  (fun _ _=>none) (fun ds _=>List.rec (motive:=fun _=>R) e (fun _ _ _=>none) ds) (fun _ _=>none) (fun _ _ _=>none) (fun _ _=>none) (fun _ _ _ _=>none) (fun _ _ _=>none) (fun _=>none) (fun _ _ _=>none) (fun _ _ _=>none) none ⟨⟩ (fun _ _ _ _=>⟨⟩) d
def Ck (d:D)(want:Bool):Option Bool:=
 match d with
 | .p (.bool b)=>some (b==want)
 | .tup []=>some false
 |_=>none
theorem Al (d:D)(want:Bool)(t e:R):Cj d want t e=match Ck d want with
  |none=>none
  |some true=>t
  |some false=>e:=by
 cases d<;>try rfl
 ·rename_i x;cases x<;>try rfl
  rename_i b;cases b<;>cases want<;>rfl
 ·rename_i ds;cases ds<;>rfl
theorem q7 {x:dU}(tm:Tm)(h:x.gd=none):cK x tm=some true:=by simp[cK,h]
theorem q8 {x:dU}(tm:Tm){g:Nat}{w:Bool}(h:x.gd=some (g,w)):cK x tm=Ck (get tm g) w:=by
 unfold cK;rw[h];rfl
def gG (d:D)(want:Bool)(run:KV→R)(hp:List Ob)(k:KV):R:=Cj d want (run k) (k (.tup []) hp)
def gF (d:D)(want:Bool)(run:KF→R)(hp:List Ob)(k:KF):R:=Cj d want (run k) (k (.tup []) hp ⟨[],[],false,0⟩)
def W2 (gd:Option (Nat×Bool))(tm:Tm)(run:KV→R)(hp:List Ob)(k:KV):R:=
 match gd with
 |none=>run k
 |some (g,w)=>gG (nC tm g) w run hp k
def W1 (gd:Option (Nat×Bool))(tm:Tm)(run:KF→R)(hp:List Ob)(k:KF):R:=
 match gd with
 |none=>run k
 |some (g,w)=>gF (nC tm g) w run hp k
def rj (tm:Tm)(as:List A):List D:=List.rec (motive:=fun _=>List D) [] (fun a _ ih=>SX tm a::ih) as
theorem Cz (tm:Tm):∀as,rj tm as=as.map (ev tm)
 |[]=>rfl
 |a::r=>by
  show SX tm a::rj tm r=_;rw[Pt,Cz tm r];rfl
def Cm (call:aG)(base:Nat)(ops:List dU):Tm→List Ob→K→R:=
 List.rec (motive:=fun _=>Tm→List Ob→K→R) (fun tm hp k=>k tm hp)
  (fun x _ ih tm hp k=>W2 x.gd tm (fun k=>Lc call base x.op x.k (rj tm x.as) hp k) hp fun v hp=>ih (put x.dst v tm) hp k) ops
theorem I9 (call:aG)(base:Nat):∀(ops:List dU) (tm:Tm) (hp:List Ob) (k:K),Cm call base ops tm hp k=match jN call base ops ⟨tm,hp⟩with
  |none=>none
  |some st=>k st.tm st.hp
 |[],tm,hp,k=>rfl
 |x::r,tm,hp,k=>by
  have step:∀v hp',Cm call base r (put x.dst v tm) hp' k=match jN call base r ⟨put x.dst v tm,hp'⟩with
   |none=>none
   |some st=>k st.tm st.hp:=fun v hp'=>I9 call base r _ _ _
  have run:(Lc call base x.op x.k (rj tm x.as) hp fun v hp=>Cm call base r (put x.dst v tm) hp k)=match (match ox call base x ⟨tm,hp⟩with
    |none=>none
    |some (st',_)=>jN call base r st')with
   |none=>none
   |some st=>k st.tm st.hp:=by
   rw[PV,Cz];simp only[df,ox,Uc,Ql];cases(!(cr x.op)||cf (aP hp (base+x.k)))
   ·rfl
   ·simp only[cond_true];cases k8 call base x.op x.k (x.as.map (ev tm)) (bj x.op (x.as.map (ev tm)) hp) ((bj x.op (x.as.map (ev tm)) hp).map (aP hp)) hp.length with
    |none=>rfl
    |some e=>
     obtain⟨v,ups,new⟩:=e;exact step _ _
  show W2 x.gd tm (fun k=>Lc call base x.op x.k (rj tm x.as) hp k) hp (fun v hp=>Cm call base r (put x.dst v tm) hp k)=_;simp only[jN,W2];cases hg:x.gd with
  |none=>rw[q7 tm hg];exact run
  |some p=>
   obtain⟨g,w⟩:=p;rw[q8 tm hg];simp only[gG,Al,fw];cases Ck (get tm g) w with
   |none=>rfl
   |some b=>
    cases b
    ·exact step _ _
    ·exact run
def rc (call:aG)(base:Nat)(ops:List dU):Tm→List Ob→List dC→(Tm→List Ob→List dC→R)→R:=
 List.rec (motive:=fun _=>Tm→List Ob→List dC→(Tm→List Ob→List dC→R)→R) (fun tm hp fs k=>k tm hp fs.reverse)
  (fun x _ ih tm hp fs k=>W1 x.gd tm (fun k=>uL call base x.op x.k (rj tm x.as) hp k) hp fun v hp f=>ih (put x.dst v tm) hp (f::fs) k) ops
theorem EE (call:aG)(base:Nat):∀(ops:List dU) (tm:Tm) (hp:List Ob) (fs:List dC) (k:Tm→List Ob→List dC→R),rc call base ops tm hp fs k=match dw call base ops ⟨tm,hp⟩ fs with
  |none=>none
  |some (st,fs)=>k st.tm st.hp fs
 |[],tm,hp,fs,k=>rfl
 |x::r,tm,hp,fs,k=>by
  have step:∀v hp' f,rc call base r (put x.dst v tm) hp' (f::fs) k=match dw call base r ⟨put x.dst v tm,hp'⟩ (f::fs)with
   |none=>none
   |some (st,fs)=>k st.tm st.hp fs:=fun v hp' f=>EE call base r _ _ _ _
  have run:(uL call base x.op x.k (rj tm x.as) hp fun v hp f=>rc call base r (put x.dst v tm) hp (f::fs) k)=match (match ox call base x ⟨tm,hp⟩with
    |none=>none
    |some (st',f)=>dw call base r st' (f::fs))with
   |none=>none
   |some (st,fs)=>k st.tm st.hp fs:=by
   rw[Tn,Cz];simp only[Cf,ox,Uc,Ql];cases(!(cr x.op)||cf (aP hp (base+x.k)))
   ·rfl
   ·simp only[cond_true];cases k8 call base x.op x.k (x.as.map (ev tm)) (bj x.op (x.as.map (ev tm)) hp) ((bj x.op (x.as.map (ev tm)) hp).map (aP hp)) hp.length with
    |none=>rfl
    |some e=>
     obtain⟨v,ups,new⟩:=e;exact step _ _ _
  show W1 x.gd tm (fun k=>uL call base x.op x.k (rj tm x.as) hp k) hp (fun v hp f=>rc call base r (put x.dst v tm) hp (f::fs) k)=_;simp only[dw,W1];cases hg:x.gd with
  |none=>rw[q7 tm hg];exact run
  |some p=>
   obtain⟨g,w⟩:=p;rw[q8 tm hg];simp only[gF,Al,fw];cases Ck (get tm g) w with
   |none=>rfl
   |some b=>
    cases b
    ·exact step _ _ _
    ·exact run
end
end Go.Ab
end
section
namespace Go.Ab
open Go
abbrev Sem:=aG→Nat→Nat→Tm→List Ob→K→(Nat→K)→K→R
noncomputable section
def IL (d:D)(t e:R):R:=fi d none fun x=>qK x none t e
def jq (out:List Nat)(tm:Tm):Tm:=List.rec (motive:=fun _=>Tm) .nil (fun s _ ih=> .cons s (nC tm s) ih) out
theorem xA (tm:Tm):∀out,jq out tm=eh out id tm
 |[]=>rfl
 |s::r=>by
  show Tm.cons s (nC tm s) (jq r tm)=_;rw[fw,xA tm r];rfl
def q6 (nal:Nat)(hp:List Ob):List Ob:=Nat.rec (motive:=fun _=>List Ob) hp (fun n _=>grow hp (List.replicate (n+1) .unborn)) nal
theorem Ez (nal:Nat)(hp:List Ob):q6 nal hp=grow hp (List.replicate nal .unborn):=by cases nal<;>rfl
def Cc (d:D)(e:R)(k:D→R):R:=
 D.rec (motive_1:=fun _=>R) (motive_2:=fun _=>PUnit.{1})
  (fun x=>og x fun x=>k (.p x)) (fun _ _=>e) (fun _ _=>e) (fun _ _=>e) (fun _ _ _=>e) (fun x off=>k (.ip x off))
  (fun _ _ _ _=>e) (fun g z es=>k (.sl g z es)) (fun _=>e) (fun _ _ _=>e) (fun _ _ _=>e) (k .junk) ⟨⟩ (fun _ _ _ _=>⟨⟩) d
def jp:D→Bool
 | .p _=>true
 | .ip _ _=>true
 | .sl _ _ _=>true
 | .junk=>true
 |_=>false
theorem K5 (d:D)(e:R)(k:D→R):Cc d e k=bif jp d then k d else e:=by
 cases d<;>try rfl
 simp only[Cc,pO,jp,cond_true]
def CL (live:List Nat)(tm:Tm)(e:R)(k:Tm→R):R:=
 List.rec (motive:=fun _=>(Tm→R)→R) (fun k=>k .nil) (fun s _ ih k=>Cc (nC tm s) e fun d=>ih fun r=>k (.cons s d r)) live k
theorem AL (tm:Tm)(e:R):∀(live:List Nat) (k:Tm→R),CL live tm e k=bif live.all (fun s=>jp (get tm s))then k (eh live id tm)else e
 |[],k=>rfl
 |s::r,k=>by
  show Cc (nC tm s) e (fun d=>CL r tm e fun r=>k (.cons s d r))=_;rw[K5,AL tm e r,fw];simp only[List.all_cons,eh,id];cases jp (get tm s)<;>rfl
def W3 (m:Nat)(g:Gh)(tm:Tm)(hp:List Ob)(k:K):R:=caseO (jD m g ⟨tm,hp⟩) none fun st=>forceTm st.tm fun tm=>forceHb st.hp fun hp=>k tm hp
theorem Wc (m:Nat)(g:Gh)(tm:Tm)(hp:List Ob)(k:K):W3 m g tm hp k=caseO (jD m g ⟨tm,hp⟩) none fun st=>k st.tm st.hp:=by
 unfold W3;congr 1;funext st;rw[pQ,jn]
def Cw (live:List Nat)(tm:Tm)(ws:List Nat):List Nat:=List.rec (motive:=fun _=>List Nat) ws (fun s _ ih=>z8 (nC tm s) ih) live
theorem xK (tm:Tm)(ws:List Nat):∀live,Cw live tm ws=dids.didsL (live.map (get tm))++ws
 |[]=>rfl
 |s::r=>by
  show z8 (nC tm s) (Cw r tm ws)=_;rw[qP,xK tm ws r,fw];simp only[List.map_cons,dids.didsL,lω]
def Cn (f:D→D)(live:List Nat)(tm:Tm):Tm:=List.rec (motive:=fun _=>Tm) .nil (fun s _ ih=> .cons s (f (nC tm s)) ih) live
theorem xD (f:D→D)(tm:Tm):∀live,Cn f live tm=eh live f tm
 |[]=>rfl
 |s::r=>by
  show Tm.cons s (f (nC tm s)) (Cn f r tm)=_;rw[fw,xD f tm r];rfl
def An (m:Nat)(live:List Nat)(tm:Tm)(hp:List Ob)(k:K):R:=
 forceNs (eC hp aX (Cw live tm (gV m hp)) (List.range m)) fun ids=>
  forceTm (Cn (gc (ik ids)) live tm) fun tm=>forceHb (lZ ids hp) fun hp=>k tm hp
theorem xC (m:Nat)(live:List Nat)(tm:Tm)(hp:List Ob)(k:K):An m live tm hp k=caseO (jD m (.keep live) ⟨tm,hp⟩) none fun st=>k st.tm st.hp:=by
 simp only[An,jo,pQ,jn,cP,xK,gN,xD,jz,iI,jD,caseO];have:∀ids,gc (idx ids)=mapD (idx ids):=fun ids=>funext fun d=>fk _ d
 simp only[this]
def PY (m:Nat)(live:List Nat)(tm:Tm)(hp:List Ob)(k:K):R:=
 List.rec (motive:=fun _=>R) (Nat.rec (motive:=fun _=>R) (CL live tm (An m live tm hp k) fun tm=>k tm []) (fun _ _=>An m live tm hp k) m) (fun _ _ _=>An m live tm hp k) hp
theorem ET (σ:Nat→Option Nat){d:D}(h:jp d=true):mapD σ d=d:=by
 cases d<;>simp_all [jp,mapD]
theorem D9 {d:D}(h:jp d=true):dids d=[]:=by
 cases d<;>simp_all [jp,dids]
theorem qQ:∀{ds:List D},ds.all jp=true→dids.didsL ds=[]
 |[],_=>rfl
 |d::r,h=>by
  simp only[List.all_cons,lγ]at h;simp only[dids.didsL,D9 h.1,qQ h.2,mα]
theorem oG (σ:Nat→Option Nat)(tm:Tm):∀{live:List Nat},live.all (fun s=>jp (get tm s))=true→eh live (mapD σ) tm=eh live id tm
 |[],_=>rfl
 |s::r,h=>by
  simp only[List.all_cons,lγ]at h;simp only[eh,ET σ h.1,oG σ tm h.2,id]
theorem PZ (m:Nat)(live:List Nat)(tm:Tm)(hp:List Ob)(k:K):PY m live tm hp k=caseO (jD m (.keep live) ⟨tm,hp⟩) none fun st=>k st.tm st.hp:=by
 cases hp with
 |cons o r=>exact xC _ _ _ _ _
 |nil=>
  cases m with
  |succ m=>exact xC _ _ _ _ _
  |zero=>
   show CL live tm (An 0 live tm [] k) (fun tm=>k tm [])=_;rw[AL,xC];cases h:live.all (fun s=>jp (get tm s))
   ·rfl
   ·have hd:dids.didsL (live.map (get tm))=[]:=qQ (by rw[List.all_map];exact h);simp only[cond_true,jD,hd,List.take_nil,List.flatMap_nil,mα,n8,caseO];rw[oG _ tm h];rfl
def Av (m:Nat)(live:List Nat)(body:Tm→List Ob→K→R)(aO:Nat)(tm:Tm)(hp:List Ob):R:=
 Nat.rec (motive:=fun _=>Tm→List Ob→R) (fun _ _=>none) (fun _ ih tm hp=>PY m live tm hp fun tm hp=>body tm hp ih) aO tm hp
def UJ:Sem:=fun _ _ _ tm hp kn _ _=>kn tm hp
def XV:Sem:=fun _ _ _ tm hp _ _ kr=>kr tm hp
def Uu (id:Nat):Sem:=fun _ _ _ tm hp _ ke _=>ke id tm hp
def Zc (a b:Sem):Sem:=fun c n m tm hp kn ke kr=>a c n m tm hp (fun tm hp=>b c n m tm hp kn ke kr) ke kr
def Xk (x:A)(t e:Sem):Sem:=fun c n m tm hp kn ke kr=>IL (SX tm x) (t c n m tm hp kn ke kr) (e c n m tm hp kn ke kr)
def Vv (id:Nat)(b:Sem):Sem:=fun c n m tm hp kn ke kr=>b c n m tm hp kn (fun i tm hp=>pS (Nat.beq i id) (kn tm hp) (ke i tm hp)) kr
def XG (live:List Nat)(b:Sem):Sem:=fun c n m tm hp _ ke kr=>Av m live (fun tm hp k=>b c n m tm hp k ke kr) n tm hp
def ZJ (g:Gh)(b:Sem):Sem:=fun c n m tm hp kn ke kr=>W3 m g tm hp fun tm hp=>b c n m tm hp kn ke kr
def Za (nal:Nat)(f:aG→Nat→Tm→List Ob→K→R):Sem:=fun c _ _ tm hp kn _ _=>f c hp.length tm (q6 nal hp) kn
def Y9 (nal:Nat)(ps:List (Nat×Nat))(f:aG→Nat→Tm→List Ob→(Tm→List Ob→List dC→R)→R):Sem:=fun c _ _ tm hp kn _ _=>f c hp.length tm (q6 nal hp) fun tm hp fs=>pS (eB fs ps) (kn tm hp) none
def XU (nal:Nat)(ops:List dU)(prs:Option (List (Nat×Nat)))(out:List Nat):Sem:=
 match prs with
 |none=>Za nal fun call base tm hp k=>Cm call base ops tm hp fun tm hp=>k (jq out tm) hp
 |some ps=>Y9 nal ps fun call base tm hp k=>rc call base ops tm hp [] fun tm hp fs=>k (jq out tm) hp fs
def OX (c:Co):Sem:=
 Co.rec (motive:=fun _=>Sem) UJ (fun nal ops prs out=>XU nal ops prs out) (fun _ _ a b=>Zc a b) (fun c _ _ t e=>Xk c t e) (fun id _ b=>Vv id b) (fun live _ b=>XG live b) (fun id=>Uu id) XV (fun g _ c=>ZJ g c) c
def zu (r:Option (Ex×St))(kn:K)(ke:Nat→K)(kr:K):R:=
 match r with
 |none=>none
 |some (.norm,st)=>kn st.tm st.hp
 |some (.exit i,st)=>ke i st.tm st.hp
 |some (.ret,st)=>kr st.tm st.hp
theorem ER {m:Nat}{live:List Nat}{body:St→Option (Ex×St)}{bodyK:Tm→List Ob→K→(Nat→K)→K→R}{ke:Nat→K}{kr kn:K}(hb:∀tm hp kn,bodyK tm hp kn ke kr=zu (body ⟨tm,hp⟩) kn ke kr):∀(aO:Nat) (tm:Tm) (hp:List Ob),Av m live (fun tm hp k=>bodyK tm hp k ke kr) aO tm hp=zu (sX m body live aO ⟨tm,hp⟩) kn ke kr
 |0,tm,hp=>rfl
 |n+1,tm,hp=>by
  show PY m live tm hp (fun tm hp=>bodyK tm hp (Av m live (fun tm hp k=>bodyK tm hp k ke kr) n) ke kr)=_;rw[PZ];simp only[sX];cases jD m (.keep live) ⟨tm,hp⟩with
  |none=>rfl
  |some st=>
   show bodyK st.tm st.hp (Av m live (fun tm hp k=>bodyK tm hp k ke kr) n) ke kr=_;rw[hb];show zu (body st) _ ke kr=zu (match body st with
    |some (.norm,st')=>sX m body live n st'
    |r=>r) kn ke kr
   cases body st with
   |none=>rfl
   |some p=>
    obtain⟨ex,st'⟩:=p;cases ex with
    |norm=>exact ER hb n _ _
    |exit i=>rfl
    |ret=>rfl
theorem nt (call:aG)(aO m:Nat):∀(c:Co) (tm:Tm) (hp:List Ob) (kn:K) (ke:Nat→K) (kr:K),OX c call aO m tm hp kn ke kr=zu (ce call aO m c ⟨tm,hp⟩) kn ke kr
 | .skip,tm,hp,kn,ke,kr=>rfl
 | .ret,tm,hp,kn,ke,kr=>rfl
 | .exit i,tm,hp,kn,ke,kr=>rfl
 | .reg nal ops none out,tm,hp,kn,ke,kr=>by
  show Cm call hp.length ops tm (q6 nal hp) (fun tm hp=>kn (jq out tm) hp)=_;rw[I9,Ez];simp only[ce,qW];cases jN call hp.length ops ⟨tm,grow hp (List.replicate nal .unborn)⟩with
  |none=>rfl
  |some st=>simp only[zu,xA]
 | .reg nal ops (some ps) out,tm,hp,kn,ke,kr=>by
  show rc call hp.length ops tm (q6 nal hp) [] (fun tm hp fs=>pS (eB fs ps) (kn (jq out tm) hp) none)=_;rw[EE,Ez];simp only[ce,qW];cases dw call hp.length ops ⟨tm,grow hp (List.replicate nal .unborn)⟩ []with
  |none=>rfl
  |some p=>
   obtain⟨st,fs⟩:=p;simp only[fF];cases eB fs ps
   ·rfl
   ·simp only[zu,cond_true,xA]
 | .seq a b,tm,hp,kn,ke,kr=>by
  show OX a call aO m tm hp (fun tm hp=>OX b call aO m tm hp kn ke kr) ke kr=_;rw[nt call aO m a];simp only[ce];cases ce call aO m a ⟨tm,hp⟩with
  |none=>rfl
  |some p=>
   obtain⟨ex,st⟩:=p;cases ex with
   |norm=>exact nt call aO m b _ _ _ _ _
   |exit i=>rfl
   |ret=>rfl
 | .cond c t e,tm,hp,kn,ke,kr=>by
  show IL (SX tm c) (OX t call aO m tm hp kn ke kr) (OX e call aO m tm hp kn ke kr)=_;rw[nt call aO m t,nt call aO m e,Pt];simp only[ce];cases ev tm c<;>try rfl
  rename_i x;cases x<;>try rfl
  rename_i b;cases b<;>rfl
 | .block id b,tm,hp,kn,ke,kr=>by
  show OX b call aO m tm hp kn (fun i tm hp=>pS (Nat.beq i id) (kn tm hp) (ke i tm hp)) kr=_;rw[nt call aO m b];simp only[ce];cases ce call aO m b ⟨tm,hp⟩with
  |none=>rfl
  |some p=>
   obtain⟨ex,st⟩:=p;cases ex with
   |norm=>rfl
   |ret=>rfl
   |exit i=>
    simp only[zu,fF];cases Nat.beq i id<;>rfl
 | .loop live b,tm,hp,kn,ke,kr=>ER (fun tm hp kn=>nt call aO m b tm hp kn ke kr) aO tm hp
 | .gh g c,tm,hp,kn,ke,kr=>by
  show W3 m g tm hp (fun tm hp=>OX c call aO m tm hp kn ke kr)=_;rw[Wc];simp only[ce];cases jD m g ⟨tm,hp⟩with
  |none=>rfl
  |some st=>exact nt call aO m c _ _ _ _ _
theorem Ak (hp:List Ob):∀{ds:List D},ds.all FY=true→oy hp ds=(ds,hp)
 |[],_=>rfl
 |d::r,h=>by
  simp only[List.all_cons,lγ]at h;cases d<;>simp only[FY,Bool.false_eq_true,false_and]at h;have e:oy hp r=(r,hp):=Ak hp h.2;simp only[oy,dids,List.map_nil,pur,cG,ao,e]
def Hc (m:Nat)(ds:List D)(hp:List Ob):R:=
 forceNs (eC hp aX (dN ds (gV m hp)) (List.range m)) fun ids=>nA (gc (ik ids) (one ds)) fun r=>forceHb (lZ ids hp) fun out=>some (r,out)
def S6 (m:Nat)(fz:Bool)(ds:List D)(hp:List Ob):R:=
 nJ ds (Bool.rec (motive:=fun _=>R) (Hc m ds hp) (Prod.rec (motive:=fun _=>R) (fun ds hp=>Hc m ds hp) (oy hp ds)) fz)
  fun ds=>Nat.rec (motive:=fun _=>R) (some (one ds,[])) (fun _ _=>Hc m ds hp) m
theorem B9 (m:Nat)(ds:List D)(hp:List Ob):Hc m ds hp=some (mapD (idx (close hp aX (dids.didsL ds++(hp.take m).flatMap hO) (List.range m))) (one ds),bB (close hp aX (dids.didsL ds++(hp.take m).flatMap hO) (List.range m)) hp):=by
 simp only[Hc,jo,K6,jn,cP,du,gN,fk,iI,jz]
theorem IX (m:Nat)(fz:Bool)(ds:List D)(hp:List Ob):S6 m fz ds hp=some (ij m fz ds hp):=by
 unfold S6;rw[hP];cases h:ds.all FY
 ·cases fz with
  |false=>exact B9 m ds hp
  |true=>
   show Prod.rec (motive:=fun _=>R) (fun ds hp=>Hc m ds hp) (oy hp ds)=_;simp only[ij,cond_true];cases oy hp ds;exact B9 _ _ _
 ·have e:(bif fz then oy hp ds else(ds,hp))=(ds,hp):=by cases fz<;>simp[Ak hp h]
  cases m with
  |succ m=>
   show Hc (m+1) ds hp=_;rw[B9];simp only[ij,e]
  |zero=>
   have hp1:yk (one ds)=true:=by
    unfold one;split
    ·rename_i d;simp only[List.all_cons,lγ]at h;cases d<;>simp_all [FY,yk]
    ·exact h
   simp only[cond_true,ij,e,oa h,List.take_zero,List.flatMap_nil,mα,n8,List.range_zero];rw[tg _ hp1];rfl
def X4 (tm:Tm)(hp:List Ob)(r:Rv)(k:D→R):R:=
 Rv.rec (motive:=fun _=>R) (fun n=>k (nC tm n)) (fun a n agg=>D.rec (motive_1:=fun _=>R) (motive_2:=fun _=>PUnit.{1})
  (fun _=>none) (fun _ _=>none) (fun _ _=>none) (fun id off=>jL (Dg hp id) none fun cs=>Ia cs off n fun ds=>qe agg ds k) (fun _ _ _=>none) (fun _ _=>none) (fun _ _ _ _=>none) (fun _ _ _=>none) (fun _=>none) (fun _ _ _=>none) (fun _ _ _=>none) none ⟨⟩ (fun _ _ _ _=>⟨⟩) (nC tm a)) r
theorem WL (tm:Tm)(hp:List Ob)(r:Rv)(k:D→R):X4 tm hp r k=caseO (Eo ⟨tm,hp⟩ r) none k:=by
 cases r with
 |t n=>simp only[X4,Eo,fw,caseO]
 |cell a n agg=>
  simp only[X4,Eo,fw,kh,rI,kO];cases get tm a<;>try rfl
  rename_i id off;have:aP hp id=hp.getD id .dead:=rfl;simp only[this];cases hp.getD id .dead<;>try rfl
  rename_i cs;simp only[jL];cases sub cs off n<;>rfl
def TT (tm:Tm)(hp:List Ob)(rs:List Rv)(k:List D→R):R:=
 List.rec (motive:=fun _=>(List D→R)→R) (fun k=>k []) (fun r _ ih k=>X4 tm hp r fun d=>ih fun ds=>k (d::ds)) rs k
theorem Jy (tm:Tm)(hp:List Ob):∀(rs:List Rv) (k:List D→R),TT tm hp rs k=caseO (jl ⟨tm,hp⟩ rs) none k
 |[],k=>rfl
 |r::rs,k=>by
  show X4 tm hp r (fun d=>TT tm hp rs fun ds=>k (d::ds))=_;rw[WL];simp only[Jy tm hp rs,jl];cases Eo ⟨tm,hp⟩ r with
  |none=>rfl
  |some d=>
   simp only[caseO];cases jl ⟨tm,hp⟩ rs<;>rfl
def FH (b:Sem)(call:aG)(n:Nat)(res:List Rv)(fz:Bool)(args:List D)(hp:List Ob):R:=
 b call n hp.length (dZ args 0) hp (fun tm hp'=>TT tm hp' res fun ds=>S6 hp.length fz ds hp') (fun _ _ _=>none) (fun tm hp'=>TT tm hp' res fun ds=>S6 hp.length fz ds hp')
theorem Jx (call:aG)(aO:Nat)(x:Fx)(args:List D)(hp:List Ob):FH (OX x.body) call aO x.res x.fz args hp=UI call aO x args hp:=by
 unfold FH UI nN;simp only[Jy];rw[nt];cases ce call aO hp.length x.body ⟨dZ args 0,hp⟩with
 |none=>rfl
 |some p=>
  obtain⟨ex,st⟩:=p;cases ex with
  |norm=>
   simp only[zu,IX];cases jl st x.res<;>rfl
  |ret=>
   simp only[zu,IX];cases jl st x.res<;>rfl
  |exit i=>rfl
inductive Hn where
 |code (b:Sem) (res:List Rv) (fz:Bool)
 |prim (g:List Da→Option (D×List Ob))
 |both (g:List Da→Option (D×List Ob)) (b:Sem) (res:List Rv) (fz:Bool)
 |any (g:List D→List Ob→Option (D×List Ob))
def hn (tab:Option Hn)(ih:aG)(n:Nat)(args:List D)(hp:List Ob):R:=
 Option.rec (motive:=fun _=>R) none (fun h=>Hn.rec (motive:=fun _=>R) (fun b res fz=>FH b ih n res fz args hp) (fun g=>match gp args with
   |some xs=>match hp with
    |[]=>g xs
    |_=>none
   |none=>none) (fun g b res fz=>match gp args with
   |some xs=>match hp with
    |[]=>g xs
    |_=>FH b ih n res fz args hp
   |none=>FH b ih n res fz args hp) (fun g=>g args hp) h) tab
def Dc (tab:Nat→Option Hn)(n:Nat):aG:=
 Nat.rec (motive:=fun _=>aG) (fun _ _ _=>none) (fun n ih f args hp=>hn (tab f) ih n args hp) n
def same (a:Option Hn)(b:Option Fn):Prop:=
 match a,b with
 |none,none=>True
 |some (.code g res fz),some (.code x)=>OX x.body=g∧x.res=res∧x.fz=fz
 |some (.prim g),some (.prim h)=>g=h
 |some (.both g b res fz),some (.both h x)=>g=h∧OX x.body=b∧x.res=res∧x.fz=fz
 |some (.any g),some (.any h)=>g=h
 |_,_=>False
theorem Px {tabH:Nat→Option Hn}{tab:Nat→Option Fn}(h:∀f,same (tabH f) (tab f)):∀n,Dc tabH n=evFn tab n
 |0=>by funext f args hp;rfl
 |n+1=>by
  funext f args hp
  show hn (tabH f) (Dc tabH n) n args hp=_;rw[Px h n];have hf:=h f;simp only[evFn,Wm];cases h1:tabH f with
  |none=>
   rw[h1]at hf;cases h2:tab f with
   |none=>rfl
   |some x=>rw[h2]at hf;cases x<;>exact hf.elim
  |some a=>
   rw[h1]at hf;cases h2:tab f with
   |none=>rw[h2]at hf;cases a<;>exact hf.elim
   |some x=>
    rw[h2]at hf;cases a with
    |code g res fz=>
     cases x with
     |code x=>
      obtain⟨h3,rfl,rfl⟩:=hf;show FH g (evFn tab n) n x.res x.fz args hp=_;rw[←h3,Jx]
     |prim q=>exact hf.elim
     |both q x=>exact hf.elim
     |any q=>exact hf.elim
    |prim g=>
     cases x with
     |code x=>exact hf.elim
     |prim q=>obtain rfl:g=q:=hf;rfl
     |both q x=>exact hf.elim
     |any q=>exact hf.elim
    |both g b res fz=>
     cases x with
     |code x=>exact hf.elim
     |prim q=>exact hf.elim
     |both q x=>
      obtain⟨rfl,h3,rfl,rfl⟩:=hf;show(match gp args with
       |some xs=>match hp with
        |[]=>g xs
        |_=>FH b (evFn tab n) n x.res x.fz args hp
       |none=>FH b (evFn tab n) n x.res x.fz args hp)=_
      rw[←h3,Jx];rfl
     |any q=>exact hf.elim
    |any g=>
     cases x with
     |code x=>exact hf.elim
     |prim q=>exact hf.elim
     |both q x=>exact hf.elim
     |any q=>obtain rfl:g=q:=hf;rfl
def Wi (b:Bool)(x y:Option Hn):Option Hn:=Bool.rec (motive:=fun _=>Option Hn) y x b
theorem AQ {b:Bool}{x y:Option Hn}{x' y':Option Fn}(h:same x x')(k:same y y'):same (Wi b x y) (bif b then x' else y'):=by
 cases b
 ·exact k
 ·exact h
end
end Go.Ab
end
section
namespace Go.Ab
open Go
noncomputable section
def pF (a b:Bool):Bool:=Bool.rec (motive:=fun _=>Bool) false b a
theorem qH (a b:Bool):pF a b=(a&&b):=by cases a<;>rfl
def Ye (y:Da)(k:IntKind→Int→Bool):Bool:=
 Da.rec (motive_1:=fun _=>Bool) (motive_2:=fun _=>PUnit.{1}) (fun _=>false) (fun i n=>k i n) (fun _=>false) (fun _ _=>false) (fun _ _ _=>false) false (fun _ _=>false) (fun _ _ _ _=>false) false (fun _ _ _=>false) false (fun _ _ _=>false) false (fun _ _ _=>false) (fun _ _=>false) ⟨⟩ (fun _ _ _ _=>⟨⟩) y
def Yg (y:Da)(k:List Nat→Bool):Bool:=
 Da.rec (motive_1:=fun _=>Bool) (motive_2:=fun _=>PUnit.{1}) (fun _=>false) (fun _ _=>false) (fun s=>k s) (fun _ _=>false) (fun _ _ _=>false) false (fun _ _=>false) (fun _ _ _ _=>false) false (fun _ _ _=>false) false (fun _ _ _=>false) false (fun _ _ _=>false) (fun _ _=>false) ⟨⟩ (fun _ _ _ _=>⟨⟩) y
def Yd (y:Da)(k:List Da→Bool):Bool:=
 Da.rec (motive_1:=fun _=>Bool) (motive_2:=fun _=>PUnit.{1}) (fun _=>false) (fun _ _=>false) (fun _=>false) (fun cs _=>k cs) (fun _ _ _=>false) false (fun _ _=>false) (fun _ _ _ _=>false) false (fun _ _ _=>false) false (fun _ _ _=>false) false (fun _ _ _=>false) (fun _ _=>false) ⟨⟩ (fun _ _ _ _=>⟨⟩) y
def Re (y:Da)(k:Nat→List Da→Bool):Bool:=
 Da.rec (motive_1:=fun _=>Bool) (motive_2:=fun _=>PUnit.{1}) (fun _=>false) (fun _ _=>false) (fun _=>false) (fun _ _=>false) (fun z es _=>k z es) false (fun _ _=>false) (fun _ _ _ _=>false) false (fun _ _ _=>false) false (fun _ _ _=>false) false (fun _ _ _=>false) (fun _ _=>false) ⟨⟩ (fun _ _ _ _=>⟨⟩) y
def JP (y:Da)(k:Nat→List Da→Bool):Bool:=
 Da.rec (motive_1:=fun _=>Bool) (motive_2:=fun _=>PUnit.{1}) (fun _=>false) (fun _ _=>false) (fun _=>false) (fun _ _=>false) (fun _ _ _=>false) false (fun _ _=>false) (fun _ _ _ _=>false) false (fun _ _ _=>false) false (fun _ _ _=>false) false (fun z es _=>k z es) (fun _ _=>false) ⟨⟩ (fun _ _ _ _=>⟨⟩) y
def Pp (m n:Int):Bool:=Int.rec (motive:=fun _=>Bool) (fun a=>Int.rec (motive:=fun _=>Bool) (fun b=>Nat.beq a b) (fun _=>false) n) (fun a=>Int.rec (motive:=fun _=>Bool) (fun _=>false) (fun b=>Nat.beq a b) n) m
theorem SR {m n:Int}(h:Pp m n=true):m=n:=by
 cases m<;>cases n<;>simp only[Pp,Bool.false_eq_true]at h
 ·rw[lζ h]
 ·rw[lζ h]
theorem El:∀{a b:List Nat},cp a b=true→a=b
 |[],[],_=>rfl
 |[],_::_,h=>by simp[cp]at h
 |_::_,[],h=>by simp[cp]at h
 |x::a,y::b,h=>by
  simp only[cp]at h;cases hx:Nat.beq x y
  ·simp[hx]at h
  ·simp only[hx,cond_true]at h;rw[lζ hx,El h]
def SQ (x:Da):Da→Bool:=
 Da.rec (motive_1:=fun _=>Da→Bool) (motive_2:=fun _=>List Da→Bool)
  (fun _ _=>false) (fun i n y=>Ye y fun j m=>pF (Nat.beq (kc i) (kc j)) (Pp n m)) (fun s y=>Yg y fun t=>Hb s t) (fun _ ih y=>Yd y ih) (fun z _ ih y=>Re y fun z' es'=>pF (Nat.beq z z') (ih es'))
  (fun _=>false) (fun _ _ _=>false) (fun _ _ _ _ _=>false) (fun _=>false) (fun _ _ _ _=>false) (fun _=>false) (fun _ _ _ _=>false) (fun _=>false) (fun z _ ih y=>JP y fun z' es'=>pF (Nat.beq z z') (ih es')) (fun _ _ _=>false)
  (fun ys=>List.rec (motive:=fun _=>Bool) true (fun _ _ _=>false) ys) (fun _ _ ihd ihr ys=>List.rec (motive:=fun _=>Bool) false (fun y ys _=>pF (ihd y) (ihr ys)) ys) x
def Ei (xs:List Da):List Da→Bool:=
 List.rec (motive:=fun _=>List Da→Bool) (fun ys=>List.rec (motive:=fun _=>Bool) true (fun _ _ _=>false) ys) (fun x _ ih ys=>List.rec (motive:=fun _=>Bool) false (fun y ys _=>pF (SQ x y) (ih ys)) ys) xs
mutual
theorem IU:∀(x y:Da),SQ x y=true→x=y
 | .bool _,y,h=>absurd (show false=true from h) Bool.false_ne_true
 | .int i n,y,h=>by
  cases y<;>try exact absurd (show false=true from h) Bool.false_ne_true
  rename_i j m;have h':pF (Nat.beq (kc i) (kc j)) (Pp n m)=true:=h;rw[qH,PW,lγ,lβ]at h';rw[h'.1,SR h'.2]
 | .str s,y,h=>by
  cases y<;>try exact absurd (show false=true from h) Bool.false_ne_true
  rename_i t;have h':Hb s t=true:=h;rw[B5]at h';rw[El h']
 | .agg cs,y,h=>by
  cases y<;>try exact absurd (show false=true from h) Bool.false_ne_true
  rename_i cs';rw[vp cs cs' h]
 | .slice z es,y,h=>by
  cases y<;>try exact absurd (show false=true from h) Bool.false_ne_true
  rename_i z' es';have h':pF (Nat.beq z z') _=true:=h;rw[qH,lγ]at h';rw[lζ h'.1,vp es es' h'.2]
 | .nilptr,y,h=>absurd (show false=true from h) Bool.false_ne_true
 | .ptr _,y,h=>absurd (show false=true from h) Bool.false_ne_true
 | .map _ _,y,h=>absurd (show false=true from h) Bool.false_ne_true
 | .nilmap,y,h=>absurd (show false=true from h) Bool.false_ne_true
 | .fn _ _,y,h=>absurd (show false=true from h) Bool.false_ne_true
 | .nilfn,y,h=>absurd (show false=true from h) Bool.false_ne_true
 | .iface _ _,y,h=>absurd (show false=true from h) Bool.false_ne_true
 | .nilif,y,h=>absurd (show false=true from h) Bool.false_ne_true
 | .sliceE z es,y,h=>by
  cases y<;>try exact absurd (show false=true from h) Bool.false_ne_true
  rename_i z' es';have h':pF (Nat.beq z z') _=true:=h;rw[qH,lγ]at h';rw[lζ h'.1,vp es es' h'.2]
 | .sym _ _,y,h=>absurd (show false=true from h) Bool.false_ne_true
theorem vp:∀(xs ys:List Da),Da.rec_1 (motive_1:=fun _=>Da→Bool) (motive_2:=fun _=>List Da→Bool)
  (fun _ _=>false) (fun i n y=>Ye y fun j m=>pF (Nat.beq (kc i) (kc j)) (Pp n m)) (fun s y=>Yg y fun t=>Hb s t) (fun _ ih y=>Yd y ih) (fun z _ ih y=>Re y fun z' es'=>pF (Nat.beq z z') (ih es'))
  (fun _=>false) (fun _ _ _=>false) (fun _ _ _ _ _=>false) (fun _=>false) (fun _ _ _ _=>false) (fun _=>false) (fun _ _ _ _=>false) (fun _=>false) (fun z _ ih y=>JP y fun z' es'=>pF (Nat.beq z z') (ih es')) (fun _ _ _=>false)
  (fun ys=>List.rec (motive:=fun _=>Bool) true (fun _ _ _=>false) ys) (fun _ _ ihd ihr ys=>List.rec (motive:=fun _=>Bool) false (fun y ys _=>pF (ihd y) (ihr ys)) ys) xs ys=true→xs=ys
 |[],[],_=>rfl
 |[],_::_,h=>by cases h
 |_::_,[],h=>by cases h
 |x::xs,y::ys,h=>by
  have h':pF (SQ x y) _=true:=h;rw[qH,lγ]at h';rw[IU x y h'.1,vp xs ys h'.2]
end
theorem Ej:∀{xs ys:List Da},Ei xs ys=true→xs=ys
 |[],[],_=>rfl
 |[],_::_,h=>by cases h
 |_::_,[],h=>by cases h
 |x::xs,y::ys,h=>by
  have h':pF (SQ x y) (Ei xs ys)=true:=h;rw[qH,lγ]at h';rw[IU x y h'.1,Ej h'.2]
def memo (l:List (List Da×R))(xs:List Da):R:=
 List.rec (motive:=fun _=>R) none (fun p _ ih=>Bool.rec (motive:=fun _=>R) ih p.2 (Ei p.1 xs)) l
theorem EU:∀{l:List (List Da×R)} {xs:List Da} {ro:D×List Ob},memo l xs=some ro→∃p∈l,p.1=xs∧p.2=some ro
 |[],xs,ro,h=>by cases h
 |p::l,xs,ro,h=>by
  have h':Bool.rec (motive:=fun _=>R) (memo l xs) p.2 (Ei p.1 xs)=some ro:=h;cases he:Ei p.1 xs
  ·rw[he]at h';obtain⟨q,h1,h2⟩:=EU (l:=l) h';exact⟨q,mθ _ h1,h2⟩
  ·rw[he]at h';exact⟨p,mν ..,Ej he,h'⟩
variable [Letters]
def Ay (l:List (List Da×R))(call:aG)(f:Nat)(xs:List Da):R:=
 Option.rec (motive:=fun _=>R) (call f (xs.map .p) []) (fun r=>some r) (memo l xs)
theorem xO {P:Program}{G:bF}{call:aG}(hc:eV P G call){f:Nat}{l:List (List Da×R)}(h:∀p∈l,p.2=none∨call f (p.1.map .p) []=p.2):ib P G f (Ay l call f):=by
 intro xs r out hm;have hcall:call f (xs.map .p) []=some (r,out):=by
  unfold Ay at hm;cases hq:memo l xs with
  |none=>rw[hq]at hm;exact hm
  |some ro=>
   rw[hq]at hm;obtain⟨p,hp,hx,hr⟩:=EU hq;rcases h p hp with h1|h1
   ·rw[h1]at hr;cases hr
   ·rw[hr,hx]at h1;rw[h1];exact hm
 obtain⟨c1,c2⟩:=hc f _ [] _ _ hcall;refine⟨c1,fun w S vs hS hg hv=>?_⟩
 exact c2 [] w S vs ⟨rfl,by intro id l o h;simp at h,by rintro b ⟨id,l,o,h,_⟩;simp at h,by intro id id' l l' o o' b h;simp at h,hS⟩ hg (Pw.map_left (by simpa only[VR]using hv))
end
end Go.Ab
end
section
namespace Go.Ab
end Go.Ab
end
section
namespace Go.Ab
open Go
variable [Letters]
theorem JC {P:Program}{G:bF}{tab:Nat→Option Fn}(h:tN P G tab){k:Nat}{g:List Da→Option (D×List Ob)}(hg:ib P G k g):tN P G (fun f=>bif Nat.beq f k then some (.prim g)else tab f):=by
 refine⟨fun f x hx=>?_,fun f g' hx=>?_,fun f g' x hx=>?_,fun f g' hx=>?_⟩
 ·cases hk:Nat.beq f k
  ·rw[hk]at hx;exact h.code f x hx
  ·rw[hk]at hx;simp at hx
 ·cases hk:Nat.beq f k
  ·rw[hk]at hx;exact h.prim f g' hx
  ·rw[hk]at hx;simp only[cond_true,lα,Fn.prim.injEq]at hx;subst hx;rw[lζ hk];exact hg
 ·cases hk:Nat.beq f k
  ·rw[hk]at hx;exact h.both f g' x hx
  ·rw[hk]at hx;simp at hx
 ·cases hk:Nat.beq f k
  ·rw[hk]at hx;exact h.any f g' hx
  ·rw[hk]at hx;simp at hx
theorem SY {P:Program}{G:bF}(hmix:P.follows .mixedOrders=true){tab:Nat→Option Fn}{tabH:Nat→Option Hn}(h:tN P G tab)(hs:∀f,same (tabH f) (tab f))(n:Nat):eV P G (Dc tabH n):=by
 rw[Px hs n];exact qV hmix h n
end Go.Ab
end
section
namespace Go.Ab
open Go
def PU (x:Nat):List Nat→List Nat
 |[]=>[x]
 |y::r=>bif Nat.beq x y then y::r else bif Nat.blt x y then x::y::r else y::PU x r
def VV (x:Nat):List Nat→List Nat
 |[]=>[]
 |y::r=>bif Nat.beq x y then r else y::VV x r
def X9:List Nat→List Nat→List Nat
 |[],l=>l
 |x::r,l=>PU x (X9 r l)
def bX (x:Nat):List Nat→Bool
 |[]=>false
 |y::r=>bif Nat.beq x y then true else bX x r
def UK:A→List Nat→List Nat
 | .t n,l=>PU n l
 |_,l=>l
def QQ:List A→List Nat→List Nat
 |[],l=>l
 |a::r,l=>UK a (QQ r l)
def XF (x:dU)(l:List Nat):List Nat:=
 QQ x.as (match x.gd with
  |some (g,_)=>PU g (match x.dst with|some d=>VV d l|none=>l)
  |none=>(match x.dst with|some d=>VV d l|none=>l))
def Jd:List dU→List Nat→List Nat
 |[],out=>out
 |x::r,out=>XF x (Jd r out)
def IZ (t:Nat):List (Nat×dU)→Option dU
 |[]=>none
 |(s,x)::r=>bif Nat.beq s t then some x else IZ t r
def C5 (d:List (Nat×dU)):Nat→Nat→Nat→Option (Nat×Nat)
 |0,_,_=>none
 |n+1,p,off=>match IZ p d with
  |none=>some (p,off)
  |some x=>match x.op,x.as with
   | .fa k,.t q::_=>C5 d n q (off+k)
   | .mv,.t q::_=>C5 d n q off
   | .nilck,.t q::_=>C5 d n q off
   |_,_=>none
def Y8 (d:List (Nat×dU))(x:dU):List Gh:=
 match x.op,x.as with
 | .app z _,.t t::_=>match IZ t d with
  |none=>[.own t z]
  |some y=>match y.op,y.as with
   | .mv,.t s::_=>match IZ s d with
    |none=>[.own s z]
    |some _=>[]
   | .load _ _,.t p::_=>match C5 d 20 p 0 with
    |some (q,off)=>[.ownc q off z]
    |none=>[]
   |_,_=>[]
 |_,_=>[]
def Qz:List (Nat×dU)→List dU→List Gh
 |_,[]=>[]
 |d,x::r=>Y8 d x++Qz (match x.dst with|some s=>(s,x)::d|none=>d) r
def rz:Co→List Gh
 | .reg _ ops _ _=>Qz [] ops
 | .seq a b=>rz a++rz b
 | .cond _ a b=>rz a++rz b
 | .block _ b=>rz b
 | .loop _ b=>rz b
 | .gh _ b=>rz b
 |_=>[]
def YU:Gh→Gh→Bool
 | .own s z,.own t y=>Nat.beq s t&&Nat.beq z y
 | .ownc s o z,.ownc t p y=>Nat.beq s t&&(Nat.beq o p&&Nat.beq z y)
 |_,_=>false
def PL (g:Gh):List Gh→Bool
 |[]=>false
 |h::r=>bif YU g h then true else PL g r
def QR:Gh→Nat
 | .own s _=>s
 | .ownc s _ _=>s
 | .frz s=>s
 | .frzc s _=>s
 | .keep _=>0
def FV (h:List Nat):List Gh→List Gh→Co→Co
 |[],_,c=>c
 |g::r,seen,c=>bif bX (QR g) h&&!PL g seen then .gh g (FV h r (g::seen) c)else FV h r seen c
def Xr:List (Nat×List Nat)→Nat→List Nat
 |[],_=>[]
 |(j,l)::r,i=>bif Nat.beq j i then l else Xr r i
def uI (rl:List Nat):Co→List Nat→List (Nat×List Nat)→Co×List Nat
 | .skip,out,_=>(.skip,out)
 | .ret,_,_=>(.ret,rl)
 | .exit i,_,ex=>(.exit i,Xr ex i)
 | .reg n ops ps _,out,_=>(.reg n ops ps out,Jd ops out)
 | .seq a b,out,ex=>(.seq (uI rl a (uI rl b out ex).2 ex).1 (uI rl b out ex).1,(uI rl a (uI rl b out ex).2 ex).2)
 | .cond c t e,out,ex=>(.cond c (uI rl t out ex).1 (uI rl e out ex).1,UK c (X9 (uI rl t out ex).2 (uI rl e out ex).2))
 | .block i b,out,ex=>(.block i (uI rl b out ((i,out)::ex)).1,(uI rl b out ((i,out)::ex)).2)
 | .loop _ b,_,ex=>(FV (uI rl b [] ex).2 (rz b) [] (.loop (uI rl b [] ex).2 (uI rl b (uI rl b [] ex).2 ex).1),(uI rl b [] ex).2)
 | .gh g c,out,ex=>(.gh g (uI rl c out ex).1,(uI rl c out ex).2)
theorem xh (h:List Nat)(c:Co):∀(gs seen:List Gh),er (FV h gs seen c)=er c
 |[],_=>rfl
 |g::r,seen=>by
  simp only[FV];cases bX (QR g) h&&!PL g seen
  ·exact xh h c r seen
  ·exact xh h c r (g::seen)
theorem ny (rl:List Nat):∀(c:Co) (out:List Nat) (ex:List (Nat×List Nat)),er (uI rl c out ex).1=er c
 | .skip,_,_=>rfl
 | .ret,_,_=>rfl
 | .exit _,_,_=>rfl
 | .reg _ _ _ _,_,_=>rfl
 | .seq a b,out,ex=>by simp only[uI,er,ny rl a,ny rl b]
 | .cond c t e,out,ex=>by simp only[uI,er,ny rl t,ny rl e]
 | .block i b,out,ex=>by simp only[uI,er,ny rl b]
 | .loop _ b,out,ex=>by simp only[uI,xh,er,ny rl b]
 | .gh g c,out,ex=>by simp only[uI,er,ny rl c]
def ghAt:List Nat→Gh→Co→Co
 |[],g,c=> .gh g c
 |0::p,g,.seq a b=> .seq (ghAt p g a) b
 |1::p,g,.seq a b=> .seq a (ghAt p g b)
 |0::p,g,.cond c a b=> .cond c (ghAt p g a) b
 |1::p,g,.cond c a b=> .cond c a (ghAt p g b)
 |0::p,g,.block i b=> .block i (ghAt p g b)
 |0::p,g,.loop l b=> .loop l (ghAt p g b)
 |0::p,g,.gh h b=> .gh h (ghAt p g b)
 |_,_,c=>c
theorem SV:∀(p:List Nat) (g:Gh) (c:Co),er (ghAt p g c)=er c:=by
 intro p g c;induction p,g,c using ghAt.induct<;>simp_all [ghAt,er]
def I2:List (List Nat×Gh)→Co→Co
 |[],c=>c
 |(p,g)::r,c=>ghAt p g (I2 r c)
theorem Em:∀(l:List (List Nat×Gh)) (c:Co),er (I2 l c)=er c
 |[],_=>rfl
 |(p,g)::r,c=>by simp only[I2,SV,Em r]
theorem R8 {P:Program}{G:bF}{raw:Nat→Bool}{N:Nat}{ops:List Oper}{draw:Bool}{x:Co}(h:GZ P G raw N ops draw=some x):er x=x:=by
 unfold GZ at h;split at h
 ·cases h
 ·cases draw
  ·simp only[cond_false,lα]at h;subst h;rfl
  ·simp only[cond_true]at h;cases he:gD ops 0
   ·rw[he]at h;cases h
   ·rw[he]at h;simp only[cond_true]at h;split at h
    ·simp only[lα]at h;subst h;rfl
    ·cases h
theorem Vw {P:Program}{G:bF}{raw:Nat→Bool}{N:Nat}:∀{c:Code} {x:Co},BS P G raw N c=some x→er x=x:=by
 intro c;induction c<;>intro x h<;>simp only[BS]at h
 all_goals try (first|(simp only[lα]at h;subst h;rfl)|(cases h;done)|exact R8 h)
 case seq a b iha ihb=>
  split at h
  ·rename_i a' b' ha hb;simp only[lα]at h;subst h;simp only[er,iha ha,ihb hb]
  ·cases h
 case cond c t e iht ihe=>
  split at h
  ·rename_i c' t' e' hc ht he;simp only[lα]at h;subst h;simp only[er,iht ht,ihe he]
  ·cases h
 case block i b ih=>
  split at h
  ·rename_i b' hb;simp only[lα]at h;subst h;simp only[er,ih hb]
  ·cases h
 case loop b ih=>
  split at h
  ·rename_i b' hb;simp only[lα]at h;subst h;simp only[er,ih hb]
  ·cases h
def WO:Rv→Nat
 | .t n=>n
 | .cell a _ _=>a
def CY:List Rv→List Nat
 |[]=>[]
 |r::rs=>PU (WO r) (CY rs)
structure T8 where
 raw:Nat→Nat→Bool
 thaw:Nat→Bool
 ghs:Nat→List (List Nat×Gh)
 prim:Nat→Option (List Da→Option (D×List Ob))
def K8 (P:Program)(G:bF)(s:T8)(f:Nat):Option Fx:=
 match P.funcs[f]? with
 |some fn=>match fn.body with
  |some c=>match BS P G (s.raw f) fn.ntmps c,Kz P fn.results.toList with
   |some x,some rs=>some ⟨I2 (s.ghs f) (uI (CY rs) x (CY rs) []).1,rs,!s.thaw f⟩
   |_,_=>none
  |none=>none
 |none=>none
theorem K9 {P:Program}{G:bF}{s:T8}{f:Nat}{x:Fx}(h:K8 P G s f=some x):∃fn,P.funcs[f]?=some fn∧K4 P G (s.raw f) fn x:=by
 unfold K8 at h;split at h
 ·rename_i fn hf;refine⟨fn,hf,?_⟩;split at h
  ·rename_i c hc;split at h
   ·rename_i y rs hy hr;simp only[lα]at h;subst h;refine⟨?_,hr⟩;rw[hc];simp only[hy,Em,ny,Vw hy]
   ·cases h
  ·cases h
 ·cases h
def QX (P:Program)(G:bF)(s:T8)(f:Nat):Option Fn:=
 match s.prim f with
 |some g=>match K8 P G s f with
  |some x=>some (.both g x)
  |none=>some (.prim g)
 |none=>match K8 P G s f with
  |some x=>some (.code x)
  |none=>none
variable [Letters]
theorem T3 {P : Program} {G : bF} {s : T8} (hn : P.funcs.toList.all (fun fn => !(fn.name == "runtime.NumGoroutine")) = true) (hp : ∀ f g, s.prim f = some g → ib P G f g) : tN P G (QX P G s) := by
 have hc : ∀ f y, K8 P G s f = some y → ∃ fn raw, P.funcs[f]? = some fn ∧ K4 P G raw fn y ∧ (fn.name == "runtime.NumGoroutine") = false := by
  intro f y hy;obtain⟨fn,h1,h2⟩:=K9 hy;refine⟨fn,s.raw f,h1,h2,?_⟩;have hm:fn∈P.funcs.toList:=by
   rw[Array.mem_toList_iff];exact Array.mem_of_getElem? h1
  simpa using List.all_eq_true.mp hn fn hm
 refine⟨fun f x h=>?_,fun f g h=>?_,fun f g x h=>?_,fun f g h=>?_⟩
 all_goals
  unfold QX at h;split at h
  ·rename_i g' hg;split at h
   ·rename_i y hy;first
     |(cases h;done)
     |(simp only[lα,Fn.both.injEq]at h;obtain⟨rfl,rfl⟩:=h;exact⟨hp f _ hg,hc f _ hy⟩)
   ·first
     |(cases h;done)
     |(simp only[lα,Fn.prim.injEq]at h;subst h;exact hp f _ hg)
  ·split at h
   ·rename_i y hy;first
     |(cases h;done)
     |(simp only[lα,Fn.code.injEq]at h;subst h;exact hc f _ hy)
   ·cases h
end Go.Ab
end
section
namespace Go.Ab
open Go
noncomputable section
structure Bx (α:Type) where
 un:α
def iv (l t:Tm):Tm:=Tm.rec (motive:=fun _=>Tm) t (fun s d _ ih=> .cons s d ih) l
def ej:Tm→List Nat
 | .nil=>[]
 | .cons s _ r=>s::ej r
def tA (s:Nat):List Nat→Option Nat
 |[]=>none
 |x::r=>bif Nat.beq x s then some 0 else match tA s r with
  |some j=>some (j+1)
  |none=>none
def WR (l:Tm):Tm:=Tm.rec (motive:=fun _=>Tm) .nil (fun _ _ r _=>r) l
def Ym (l:Tm):D:=Tm.rec (motive:=fun _=>D) .junk (fun _ d _ _=>d) l
def IR:Nat→Bx (Tm→D)
 |0=>⟨fun l=>Ym l⟩
 |1=>⟨fun l=>Ym (WR l)⟩
 |2=>⟨fun l=>Ym (WR (WR l))⟩
 |n+3=>⟨fun l=>(IR n).un (WR (WR (WR l)))⟩
theorem Ea:∀(n:Nat) (l:Tm),(IR n).un l=Nat.rec (motive:=fun _=>Tm→D) (fun l=>Ym l) (fun _ ih l=>ih (WR l)) n l
 |0,l=>rfl
 |1,l=>rfl
 |2,l=>rfl
 |n+3,l=>Ea n _
theorem AJ (s:Nat)(t:Tm):∀(l:Tm),get (iv l t) s=match tA s (ej l)with
  |some j=>(IR j).un l
  |none=>get t s
 | .nil=>rfl
 | .cons x d r=>by
  show(bif Nat.beq x s then d else get (iv r t) s)=_;simp only[ej,tA];cases h:Nat.beq x s
  ·simp only[cond_false];rw[AJ s t r];cases tA s (ej r)with
   |none=>rfl
   |some j=>
    simp only[Ea];rfl
  ·rfl
def Fi (σ:List Nat):A→Bx (Tm→Tm→D)
 | .t n=>match tA n σ with
  |some j=>⟨fun _ l=>(IR j).un l⟩
  |none=>⟨fun t _=>nC t n⟩
 | .c x=>⟨fun _ _=> .p x⟩
 | .n z=>⟨fun _ _=> .sl .nil z []⟩
 | .f g=>⟨fun _ _=> .p (.fn g [])⟩
 | .g x=>⟨fun _ _=> .ip x 0⟩
theorem vC (l t:Tm)(a:A):(Fi (ej l) a).un t l=SX (iv l t) a:=by
 cases a<;>try rfl
 rename_i n;show _=nC (iv l t) n;rw[fw,AJ];simp only[Fi];cases tA n (ej l)with
 |none=>simp only[fw]
 |some j=>rfl
abbrev Ua:=Bx (Tm→Tm→D)
def tH (as:List Ua)(t l:Tm):List D:=List.rec (motive:=fun _=>List D) [] (fun a _ ih=>a.un t l::ih) as
def WA (o:O)(kk:Nat)(as:List Ua):Bx (aG→Nat→Tm→Tm→List Ob→KV→R):=
 match o,as with
 | .mv,[a]=>⟨fun _ _ t l hp k=>k (a.un t l) hp⟩
 | .pick,[c,a,b]=>⟨fun _ _ t l hp k=>QD (c.un t l) (a.un t l) (b.un t l) fun v=>k v hp⟩
 | .bin op,[x,y]=>⟨fun _ _ t l hp k=>RZ op (x.un t l) (y.un t l) fun v=>k v hp⟩
 | .un .not,[x]=>⟨fun _ _ t l hp k=>Ww (x.un t l) fun v=>k v hp⟩
 | .ia esz,[x,i]=>⟨fun _ _ t l hp k=>Zs esz (x.un t l) (i.un t l) fun v=>k v hp⟩
 | .ix,[x,i]=>⟨fun _ _ t l hp k=>Yp (x.un t l) (i.un t l) fun v=>k v hp⟩
 | .fa off,[x]=>⟨fun _ _ t l hp k=>Zq off (x.un t l) fun v=>k v hp⟩
 | .nilck,[x]=>⟨fun _ _ t l hp k=>Qm (x.un t l) fun v=>k v hp⟩
 | .ext i,[x]=>⟨fun _ _ t l hp k=>S4 i (x.un t l) fun v=>k v hp⟩
 | .len kd,[x]=>⟨fun _ _ t l hp k=>XE kd (x.un t l) hp fun v=>k v hp⟩
 | .call f raw,as=>⟨fun call _ t l hp k=>II call f raw (tH as t l) hp k⟩
 | .alloc zs,[]=>⟨fun _ base _ _ hp k=>BO base kk zs hp k⟩
 | .box n,[d]=>⟨fun _ base t l hp k=>R6 base n kk (d.un t l) hp k⟩
 | .store n,[a,d]=>⟨fun call base t l hp k=>C0 call base n kk (a.un t l) (d.un t l) hp k⟩
 | .slStr lo hi,x::xs=>⟨fun _ _ t l hp k=>CX lo hi (x.un t l) (tH xs t l) fun v=>k v hp⟩
 | .fld off n agg,[x]=>⟨fun _ _ t l hp k=>PE off n agg (x.un t l) fun v=>k v hp⟩
 | .build zs ps,vs=>⟨fun _ _ t l hp k=>BR zs ps (tH vs t l) fun v=>k v hp⟩
 | .app esz bytes,[a,b]=>⟨fun call base t l hp k=>RT call base esz bytes kk (a.un t l) (b.un t l) hp k⟩
 | .load 1 false,[x]=>⟨fun _ _ t l hp k=>P7 (x.un t l) hp fun v=>k v hp⟩
 | .load n true,[x]=>⟨fun _ _ t l hp k=>Uz n true (x.un t l) hp fun v=>k v hp⟩
 |o,as=>⟨fun call base t l hp k=>Lc call base o kk (tH as t l) hp k⟩
theorem HH (o:O)(kk:Nat)(as:List Ua)(call:aG)(base:Nat)(t l:Tm)(hp:List Ob)(k:KV):(WA o kk as).un call base t l hp k=Lc call base o kk (tH as t l) hp k:=by
 unfold WA;split<;>first
  |rfl
  |(
    show _=Lc call base (.load _ true) kk [_] hp k;unfold Lc;split<;>simp_all)
def pY (σ:List Nat):List A→List Ua
 |[]=>[]
 |a::r=>Fi σ a::pY σ r
theorem rT (t l:Tm):∀as,tH (pY (ej l) as) t l=rj (iv l t) as
 |[]=>rfl
 |a::r=>by
  show(Fi (ej l) a).un t l::tH (pY (ej l) r) t l=SX (iv l t) a::rj (iv l t) r;rw[vC,rT t l r]
def Yu (σ:List Nat)(x:dU):Bx (aG→Nat→Tm→Tm→List Ob→KV→R):=
 match x.gd with
 |none=>WA x.op x.k (pY σ x.as)
 |some (g,w)=>⟨fun call base t l hp k=>gG ((Fi σ (.t g)).un t l) w (fun k=>(WA x.op x.k (pY σ x.as)).un call base t l hp k) hp k⟩
theorem Qx (x:dU)(call:aG)(base:Nat)(t l:Tm)(hp:List Ob)(k:KV):(Yu (ej l) x).un call base t l hp k=W2 x.gd (iv l t) (fun k=>Lc call base x.op x.k (rj (iv l t) x.as) hp k) hp k:=by
 unfold Yu W2;cases h:x.gd with
 |none=>simp only[HH,rT]
 |some p=>
  obtain⟨g,w⟩:=p;simp only[HH,rT,vC];rfl
def HJ (σ:List Nat):List Nat→Bx (Tm→Tm→Tm)
 |[]=>⟨fun _ _=> .nil⟩
 |s::r=>⟨fun t l=> .cons s ((Fi σ (.t s)).un t l) ((HJ σ r).un t l)⟩
theorem CK (t l:Tm):∀out,(HJ (ej l) out).un t l=jq out (iv l t)
 |[]=>rfl
 |s::r=>by
  show Tm.cons s ((Fi (ej l) (.t s)).un t l) ((HJ (ej l) r).un t l)=_;rw[vC,CK t l r];rfl
def LC (out:List Nat):List Nat→List dU→Bx (aG→Nat→Tm→Tm→List Ob→K→R)
 |σ,[]=>⟨fun _ _ t l hp k=>k ((HJ σ out).un t l) hp⟩
 |σ,x::r=>match x.dst with
  |some d=>⟨fun call base t l hp k=>(Yu σ x).un call base t l hp fun v hp=>(LC out (d::σ) r).un call base t (.cons d v l) hp k⟩
  |none=>⟨fun call base t l hp k=>(Yu σ x).un call base t l hp fun _ hp=>(LC out σ r).un call base t l hp k⟩
theorem vD (out:List Nat)(call:aG)(base:Nat)(t:Tm)(k:K):∀(ops:List dU) (l:Tm) (hp:List Ob),(LC out (ej l) ops).un call base t l hp k=Cm call base ops (iv l t) hp fun tm hp=>k (jq out tm) hp
 |[],l,hp=>by
  show k ((HJ (ej l) out).un t l) hp=k (jq out (iv l t)) hp;rw[CK]
 |x::r,l,hp=>by
  have step:Cm call base (x::r) (iv l t) hp (fun tm hp=>k (jq out tm) hp)=W2 x.gd (iv l t) (fun k=>Lc call base x.op x.k (rj (iv l t) x.as) hp k) hp fun v hp=>Cm call base r (put x.dst v (iv l t)) hp fun tm hp=>k (jq out tm) hp:=rfl
  rw[step];unfold LC;cases hd:x.dst with
  |none=>
   simp only[Qx];congr 1;funext v hp;exact vD out call base t k r l hp
  |some d=>
   simp only[Qx];congr 1;funext v hp;exact vD out call base t k r (.cons d v l) hp
structure eU where
 rs:List Nat
 wl:List (Nat×Bool)
 grow:Bool
 lim:Nat
def qj (l:List (Nat×Bool)):List Nat:=List.rec (motive:=fun _=>List Nat) [] (fun p _ ih=>bif p.2 then p.1::ih else ih) l
def bQ (f:eU):dC:=⟨f.rs,qj f.wl,f.grow,f.lim⟩
def tI (ids:List Nat)(hp:List Ob)(l:List (Nat×Ob)):List (Nat×Bool):=List.rec (motive:=fun _=>List (Nat×Bool)) [] (fun p _ ih=>(p.1,!(ub p.1 ids&&Ha (aP hp p.1) p.2))::ih) l
theorem jX (ids:List Nat)(hp:List Ob):∀l,qj (tI ids hp l)=jW ids hp l
 |[]=>rfl
 |(i,o)::r=>by
  show(bif !(ub i ids&&Ha (aP hp i) o)then i::qj (tI ids hp r)else qj (tI ids hp r))=_;rw[jX ids hp r];simp only[jW];cases ub i ids&&Ha (aP hp i) o<;>rfl
def Td (i:Nat)(l:List (Nat×Bool)):Bool:=List.rec (motive:=fun _=>Bool) false (fun p _ ih=>Bool.rec (motive:=fun _=>Bool) ih (Bool.rec (motive:=fun _=>Bool) ih true p.2) (Nat.beq p.1 i)) l
theorem I4 (i:Nat):∀l,Td i l=(qj l).contains i
 |[]=>rfl
 |(j,b)::r=>by
  show Bool.rec (motive:=fun _=>Bool) (Td i r) (Bool.rec (motive:=fun _=>Bool) (Td i r) true b) (Nat.beq j i)=(bif b then j::qj r else qj r).contains i;rw[I4 i r];cases b with
  |false=>cases Nat.beq j i<;>rfl
  |true=>
   simp only[cond_true,List.contains_cons];have:(i==j)=Nat.beq j i:=by rw[mη,beq_iff_eq,Nat.beq_eq];exact eq_comm
   rw[this];cases Nat.beq j i<;>rfl
def Mj (a:eU)(i:Nat):Bool:=Bool.rec (motive:=fun _=>Bool) (Bool.rec (motive:=fun _=>Bool) false (Nat.ble a.lim i) a.grow) true (Td i a.wl)
theorem JO (a:eU)(i:Nat):Mj a i=wr (bQ a) i:=by
 unfold Mj wr bQ;rw[I4];cases(qj a.wl).contains i<;>cases a.grow<;>simp
def Jk (a:eU)(l:List Nat):Bool:=List.rec (motive:=fun _=>Bool) true (fun i _ ih=>Bool.rec (motive:=fun _=>Bool) ih false (Mj a i)) l
theorem EZ (a:eU):∀l,Jk a l=l.all (fun i=>!wr (bQ a) i)
 |[]=>rfl
 |i::r=>by
  show Bool.rec (motive:=fun _=>Bool) (Jk a r) false (Mj a i)=_;rw[EZ a r,JO];simp only[List.all_cons];cases wr (bQ a) i<;>rfl
def xU (a:eU)(l:List (Nat×Bool)):Bool:=List.rec (motive:=fun _=>Bool) true (fun p _ ih=>Bool.rec (motive:=fun _=>Bool) ih (Bool.rec (motive:=fun _=>Bool) ih false p.2) (Mj a p.1)) l
theorem AC (a:eU):∀l,xU a l=(qj l).all (fun i=>!wr (bQ a) i)
 |[]=>rfl
 |(i,b)::r=>by
  show Bool.rec (motive:=fun _=>Bool) (xU a r) (Bool.rec (motive:=fun _=>Bool) (xU a r) false b) (Mj a i)=(bif b then i::qj r else qj r).all _;rw[AC a r,JO];cases b with
  |false=>cases wr (bQ a) i<;>rfl
  |true=>
   simp only[cond_true,List.all_cons];cases wr (bQ a) i<;>rfl
def GN (a b:eU):Bool:=
 Bool.rec (motive:=fun _=>Bool) false (Bool.rec (motive:=fun _=>Bool) false (Bool.rec (motive:=fun _=>Bool) false (Bool.rec (motive:=fun _=>Bool) false (Bool.rec (motive:=fun _=>Bool) true (Bool.rec (motive:=fun _=>Bool) true false b.grow) a.grow) (xU b a.wl)) (Jk b a.rs)) (xU a b.wl)) (Jk a b.rs)
theorem Kq (a b:eU):GN a b=jK (bQ a) (bQ b):=by
 unfold GN jK;simp only[EZ,AC];show _=((bQ b).rs.all _&&(qj b.wl).all _&&(bQ a).rs.all _&&(qj a.wl).all _&&!(a.grow&&b.grow));simp only[bQ];cases b.rs.all _<;>cases(qj b.wl).all _<;>cases a.rs.all _<;>cases(qj a.wl).all _<;>cases a.grow<;>cases b.grow<;>rfl
def kC (fs:List eU):List (Nat×Nat)→Bool
 |[]=>true
 |(i,j)::r=>match fs[i]?,fs[j]? with
  |some a,some b=>Bool.rec (motive:=fun _=>Bool) false (kC fs r) (GN a b)
  |_,_=>false
theorem lN (fs:List eU):∀ps,kC fs ps=eB (fs.map bQ) ps
 |[]=>rfl
 |(i,j)::r=>by
  simp only[kC,eB,lσ,lN fs r];cases fs[i]? with
  |none=>rfl
  |some a=>
   cases fs[j]? with
   |none=>rfl
   |some b=>
    simp only[Option.map_some,Kq];cases jK (bQ a) (bQ b)<;>rfl
abbrev KL:=D→List Ob→eU→R
def G1 (call:aG)(f:Nat)(raw:Bool)(vs:List D)(hp:List Ob)(k:KL):R:=
 forceNs (eC hp aX (dN vs []) []) fun ids=>
  forceDs (eZ (ik ids) (Bool.rec (motive:=fun _=>List D) (vs.map norm) vs raw)) fun args=>forceHb (lZ ids hp) fun hp'=>
   caseO (call f args hp') none fun ro=>Prod.rec (motive:=fun _=>R) (fun r out=>pS (Nat.ble ids.length out.length)
    (gH (gc (back ids.length hp.length ids out.length) r) fun v=>forceHb (ml (back ids.length hp.length ids out.length) out) fun out'=>
     forceHb (grow (ao hp (ids.zip out')) (out'.drop ids.length)) fun hp2=>k v hp2 ⟨ids,tI ids hp (ids.zip out'),!(out'.drop ids.length).isEmpty,hp.length⟩) none) ro
theorem KB (call:aG)(f:Nat)(raw:Bool)(vs:List D)(hp:List Ob){k:KL}{q:KF}(h:∀v hp f,k v hp f=q v hp (bQ f)):G1 call f raw vs hp k=z6 call f raw vs hp q:=by
 unfold G1 z6;simp only[h,bQ,jX]
def G0 (call:aG)(f:Nat)(raw:Bool)(vs:List D)(hp:List Ob)(k:KL):R:=
 zY call f raw vs hp (G1 call f raw vs hp k) fun v=>k v hp ⟨[],[],false,hp.length⟩
theorem KA (call:aG)(f:Nat)(raw:Bool)(vs:List D)(hp:List Ob){k:KL}{q:KF}(h:∀v hp f,k v hp f=q v hp (bQ f)):G0 call f raw vs hp k=DZ call f raw vs hp q:=by
 unfold G0 DZ;rw[KB _ _ _ _ _ h];simp only[h];rfl
def I0 (call:aG)(base:Nat)(o:O)(kk:Nat)(vs:List D)(hp:List Ob)(k:KL):R:=
 bif !(cr o)||cf (aP hp (base+kk))then
  match k8 call base o kk vs (bj o vs hp) ((bj o vs hp).map (aP hp)) hp.length with
  |none=>none
  |some (v,ups,new)=>k v (grow (ao hp ups) new) ⟨bif cr o then(base+kk)::bj o vs hp else bj o vs hp,tI (bj o vs hp) hp ups,!new.isEmpty,hp.length⟩
 else none
theorem PF (call:aG)(base:Nat)(o:O)(kk:Nat)(vs:List D)(hp:List Ob){k:KL}{q:KF}(h:∀v hp f,k v hp f=q v hp (bQ f)):I0 call base o kk vs hp k=Cf call base o kk vs hp q:=by
 unfold I0 Cf;cases !(cr o)||cf (aP hp (base+kk))with
 |false=>rfl
 |true=>
  simp only[cond_true];cases k8 call base o kk vs (bj o vs hp) ((bj o vs hp).map (aP hp)) hp.length with
  |none=>rfl
  |some e=>
   obtain⟨v,ups,new⟩:=e;simp only[h,bQ,jX]
def HF (o:O)(kk:Nat)(as:List Ua):Bx (aG→Nat→Tm→Tm→List Ob→KL→R):=
 match o with
 | .call f raw=>⟨fun call _ t l hp k=>G0 call f raw (tH as t l) hp k⟩
 |o=>match kT o with
  |true=>⟨fun call base t l hp k=>(WA o kk as).un call base t l hp fun v hp'=>k v hp' ⟨bj o (tH as t l) hp,[],false,hp.length⟩⟩
  |false=>⟨fun call base t l hp k=>I0 call base o kk (tH as t l) hp k⟩
theorem HG {o:O}(hs:kT o=true)(kk:Nat)(as:List Ua):HF o kk as=⟨fun call base t l hp k=>(WA o kk as).un call base t l hp fun v hp'=>k v hp' ⟨bj o (tH as t l) hp,[],false,hp.length⟩⟩:=by
 cases o<;>first
  |rfl
  |(cases hs;done)
  |(simp only[HF,hs])
theorem Hm {call:aG}{base kk:Nat}{o:O}{vs:List D}{hp:List Ob}{q:KF}(hs:kT o=true):uL call base o kk vs hp q=Lc call base o kk vs hp fun v hp'=>q v hp' (Ux o vs hp):=by
 cases o<;>first
  |rfl
  |(cases hs;done)
  |(simp only[uL,hs])
theorem LB {o:O}(hs:kT o=false)(hc:∀f raw,o≠ .call f raw)(kk:Nat)(as:List Ua):HF o kk as=⟨fun call base t l hp k=>I0 call base o kk (tH as t l) hp k⟩:=by
 cases o<;>first
  |rfl
  |exact absurd rfl (hc _ _)
  |(cases hs;done)
  |(simp only[HF,hs])
theorem Ld {call:aG}{base kk:Nat}{o:O}{vs:List D}{hp:List Ob}{q:KF}(hs:kT o=false)(hc:∀f raw,o≠ .call f raw):uL call base o kk vs hp q=Cf call base o kk vs hp q:=by
 cases o<;>first
  |rfl
  |exact absurd rfl (hc _ _)
  |(cases hs;done)
  |(simp only[uL,hs])
theorem Jn (o:O)(kk:Nat)(as:List Ua)(call:aG)(base:Nat)(t l:Tm)(hp:List Ob){k:KL}{q:KF}(h:∀v hp f,k v hp f=q v hp (bQ f)):(HF o kk as).un call base t l hp k=uL call base o kk (tH as t l) hp q:=by
 by_cases hc:∃f raw,o= .call f raw
 ·obtain⟨f,raw,rfl⟩:=hc;exact KA _ _ _ _ _ h
 ·have hc:∀f raw,o≠ .call f raw:=fun f raw e=>hc ⟨f,raw,e⟩
  cases hs:kT o with
  |true=>
   rw[HG hs,Hm hs];show(WA o kk as).un call base t l hp _=_;rw[HH];congr 1;funext v hp';exact h _ _ _
  |false=>
   rw[LB hs hc,Ld hs hc];exact PF _ _ _ _ _ _ h
def TI (σ:List Nat)(x:dU):Bx (aG→Nat→Tm→Tm→List Ob→KL→R):=
 match x.gd with
 |none=>HF x.op x.k (pY σ x.as)
 |some (g,w)=>⟨fun call base t l hp k=>Cj ((Fi σ (.t g)).un t l) w ((HF x.op x.k (pY σ x.as)).un call base t l hp k) (k (.tup []) hp ⟨[],[],false,0⟩)⟩
theorem Jo (x:dU)(call:aG)(base:Nat)(t l:Tm)(hp:List Ob){k:KL}{q:KF}(hk:∀v hp f,k v hp f=q v hp (bQ f)):(TI (ej l) x).un call base t l hp k=W1 x.gd (iv l t) (fun k=>uL call base x.op x.k (rj (iv l t) x.as) hp k) hp q:=by
 unfold TI W1;cases h:x.gd with
 |none=>simp only[Jn _ _ _ _ _ _ _ _ hk,rT]
 |some p=>
  obtain⟨g,w⟩:=p;simp only[Jn _ _ _ _ _ _ _ _ hk,rT,vC,hk];rfl
def Fj (out:List Nat):List Nat→List dU→Bx (aG→Nat→Tm→Tm→List Ob→List eU→(Tm→List Ob→List eU→R)→R)
 |σ,[]=>⟨fun _ _ t l hp fs k=>k ((HJ σ out).un t l) hp fs.reverse⟩
 |σ,x::r=>match x.dst with
  |some d=>⟨fun call base t l hp fs k=>(TI σ x).un call base t l hp fun v hp f=>(Fj out (d::σ) r).un call base t (.cons d v l) hp (f::fs) k⟩
  |none=>⟨fun call base t l hp fs k=>(TI σ x).un call base t l hp fun _ hp f=>(Fj out σ r).un call base t l hp (f::fs) k⟩
theorem yb (out:List Nat)(call:aG)(base:Nat)(t:Tm){k:Tm→List Ob→List eU→R}{q:Tm→List Ob→List dC→R}(hk:∀tm hp fs,k tm hp fs=q tm hp (fs.map bQ)):∀(ops:List dU) (l:Tm) (hp:List Ob) (fs:List eU),(Fj out (ej l) ops).un call base t l hp fs k=rc call base ops (iv l t) hp (fs.map bQ) fun tm hp fs=>q (jq out tm) hp fs
 |[],l,hp,fs=>by
  show k ((HJ (ej l) out).un t l) hp fs.reverse=q (jq out (iv l t)) hp (fs.map bQ).reverse;rw[CK,hk,List.map_reverse]
 |x::r,l,hp,fs=>by
  have step:rc call base (x::r) (iv l t) hp (fs.map bQ) (fun tm hp fs=>q (jq out tm) hp fs)=W1 x.gd (iv l t) (fun k=>uL call base x.op x.k (rj (iv l t) x.as) hp k) hp fun v hp f=>rc call base r (put x.dst v (iv l t)) hp (f::fs.map bQ) fun tm hp fs=>q (jq out tm) hp fs:=rfl
  rw[step];unfold Fj;cases hd:x.dst with
  |none=>
   exact Jo _ _ _ _ _ _ fun v hp f=>yb out call base t hk r l hp (f::fs)
  |some d=>
   exact Jo _ _ _ _ _ _ fun v hp f=>yb out call base t hk r (.cons d v l) hp (f::fs)
def XT (nal:Nat)(ops:List dU)(prs:Option (List (Nat×Nat)))(out:List Nat):Bx Sem:=
 match prs with
 |none=>match nal with
  |0=>⟨fun c _ _ tm hp kn _ _=>(LC out [] ops).un c hp.length tm .nil hp kn⟩
  |n+1=>⟨fun c _ _ tm hp kn _ _=>(LC out [] ops).un c hp.length tm .nil (q6 (n+1) hp) kn⟩
 |some ps=>⟨fun c _ _ tm hp kn _ _=>(Fj out [] ops).un c hp.length tm .nil (q6 nal hp) [] fun tm hp fs=>pS (kC fs ps) (kn tm hp) none⟩
theorem TO (nal:Nat)(ops:List dU)(prs:Option (List (Nat×Nat)))(out:List Nat):(XT nal ops prs out).un=XU nal ops prs out:=by
 funext c n m tm hp kn ke kr
 cases prs with
 |none=>
  cases nal with
  |zero=>exact vD out c hp.length tm kn ops .nil hp
  |succ k=>exact vD out c hp.length tm kn ops .nil (q6 (k+1) hp)
 |some ps=>exact yb out c hp.length tm (q:=fun tm hp fs=>pS (eB fs ps) (kn tm hp) none) (fun tm hp fs=>by rw[lN]) ops .nil (q6 nal hp) []
def nr:Co→Bx Sem
 | .skip=>⟨UJ⟩
 | .reg nal ops prs out=>XT nal ops prs out
 | .seq a b=>⟨fun c n m tm hp kn ke kr=>(nr a).un c n m tm hp (fun tm hp=>(nr b).un c n m tm hp kn ke kr) ke kr⟩
 | .cond x t e=>⟨fun c n m tm hp kn ke kr=>IL (SX tm x) ((nr t).un c n m tm hp kn ke kr) ((nr e).un c n m tm hp kn ke kr)⟩
 | .block id b=>⟨fun c n m tm hp kn ke kr=>(nr b).un c n m tm hp kn (fun i tm hp=>pS (Nat.beq i id) (kn tm hp) (ke i tm hp)) kr⟩
 | .loop live b=>⟨fun c n m tm hp _ ke kr=>Av m live (fun tm hp k=>(nr b).un c n m tm hp k ke kr) n tm hp⟩
 | .exit id=>⟨Uu id⟩
 | .ret=>⟨XV⟩
 | .gh g b=>⟨fun c n m tm hp kn ke kr=>W3 m g tm hp fun tm hp=>(nr b).un c n m tm hp kn ke kr⟩
theorem iD:∀c:Co,(nr c).un=OX c
 | .skip=>rfl
 | .reg nal ops prs out=>TO nal ops prs out
 | .seq a b=>by
  show(fun(c:aG) (n m:Nat) (tm:Tm) (hp:List Ob) (kn:K) (ke:Nat→K) (kr:K)=>(nr a).un c n m tm hp (fun tm hp=>(nr b).un c n m tm hp kn ke kr) ke kr)=_;rw[iD a,iD b];rfl
 | .cond x t e=>by
  show(fun(c:aG) (n m:Nat) (tm:Tm) (hp:List Ob) (kn:K) (ke:Nat→K) (kr:K)=>IL (SX tm x) ((nr t).un c n m tm hp kn ke kr) ((nr e).un c n m tm hp kn ke kr))=_;rw[iD t,iD e];rfl
 | .block id b=>by
  show(fun(c:aG) (n m:Nat) (tm:Tm) (hp:List Ob) (kn:K) (ke:Nat→K) (kr:K)=>(nr b).un c n m tm hp kn (fun i tm hp=>pS (Nat.beq i id) (kn tm hp) (ke i tm hp)) kr)=_;rw[iD b];rfl
 | .loop live b=>by
  show(fun(c:aG) (n m:Nat) (tm:Tm) (hp:List Ob) (_:K) (ke:Nat→K) (kr:K)=>Av m live (fun tm hp k=>(nr b).un c n m tm hp k ke kr) n tm hp)=_;rw[iD b];rfl
 | .exit _=>rfl
 | .ret=>rfl
 | .gh g b=>by
  show(fun(c:aG) (n m:Nat) (tm:Tm) (hp:List Ob) (kn:K) (ke:Nat→K) (kr:K)=>W3 m g tm hp fun tm hp=>(nr b).un c n m tm hp kn ke kr)=_;rw[iD b];rfl
def Xy:Option Fn→Option Hn
 |some (.code x)=>some (.code (nr x.body).un x.res x.fz)
 |some (.prim g)=>some (.prim g)
 |some (.both g x)=>some (.both g (nr x.body).un x.res x.fz)
 |some (.any g)=>some (.any g)
 |none=>none
theorem Lb (o:Option Fn):same (Xy o) o:=by
 cases o with
 |none=>trivial
 |some x=>cases x with
  |code x=>exact⟨(iD _).symm,rfl,rfl⟩
  |prim g=>rfl
  |both g x=>exact⟨rfl,(iD _).symm,rfl,rfl⟩
  |any g=>rfl
def UM (P:Program)(G:bF)(s:T8)(f:Nat):Option Hn:=Xy (QX P G s f)
theorem Mc (P:Program)(G:bF)(s:T8)(f:Nat):same (UM P G s f) (QX P G s f):=Lb _
end
end Go.Ab
end
