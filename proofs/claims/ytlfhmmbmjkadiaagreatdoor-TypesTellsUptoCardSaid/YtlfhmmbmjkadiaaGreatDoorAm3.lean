import Derived.Test.YtlfhmmbmjkadiaaGreatDoorAm0
import Derived.Test.YtlfhmmbmjkadiaaGreatDoorAm2
import Derived.Lib.ItoaNum
import Derived.KernelRfl
set_option linter.all false
section
namespace Go.Ab
open Go
abbrev R:=Option (D×List Ob)
abbrev K:=Tm→List Ob→R
abbrev KV:=D→List Ob→R
noncomputable section
def sT (tm:Tm)(t:Nat):D:=
 Tm.rec (motive:=fun _=>D) .junk (fun s d _ ih=>Bool.rec (motive:=fun _=>D) ih d (Nat.beq s t)) tm
theorem il (t:Nat):∀tm,sT tm t=get tm t
 | .nil=>rfl
 | .cons s d r=>by
  show Bool.rec (motive:=fun _=>D) (sT r t) d (Nat.beq s t)=bif Nat.beq s t then d else get r t
  rw[il t r];cases Nat.beq s t<;>rfl
def evA (tm:Tm)(a:A):D:=
 A.rec (motive:=fun _=>D) (fun n=>sT tm n) (fun x=> .p x) (fun z=> .sl .nil z []) (fun g=> .p (.fn g [])) (fun x=> .ip x 0) a
theorem Z6 (tm:Tm)(a:A):evA tm a=ev tm a:=by
 cases a
 ·exact il _ tm
 all_goals rfl
def gW (d:D)(e:R)(k:Da→R):R:=
 D.rec (motive_1:=fun _=>R) (motive_2:=fun _=>PUnit.{1})
  (fun x=>k x) (fun _ _=>e) (fun _ _=>e) (fun _ _=>e) (fun _ _ _=>e) (fun _ _=>e) (fun _ _ _ _=>e) (fun _ _ _=>e) (fun _=>e) (fun _ _ _=>e) (fun _ _ _=>e) e ⟨⟩ (fun _ _ _ _=>⟨⟩) d
def xe (x:Da)(e:R)(k:IntKind→Int→R):R:=
 Da.rec (motive_1:=fun _=>R) (motive_2:=fun _=>PUnit.{1})
  (fun _=>e) (fun i n=>k i n) (fun _=>e) (fun _ _=>e) (fun _ _ _=>e) e (fun _ _=>e) (fun _ _ _ _=>e) e (fun _ _ _=>e) e (fun _ _ _=>e) e (fun _ _ _=>e) (fun _ _=>e) ⟨⟩ (fun _ _ _ _=>⟨⟩) x
def xc (x:Da)(e:R)(t f:R):R:=
 Da.rec (motive_1:=fun _=>R) (motive_2:=fun _=>PUnit.{1})
  (fun b=>Bool.rec (motive:=fun _=>R) f t b) (fun _ _=>e) (fun _=>e) (fun _ _=>e) (fun _ _ _=>e) e (fun _ _=>e) (fun _ _ _ _=>e) e (fun _ _ _=>e) e (fun _ _ _=>e) e (fun _ _ _=>e) (fun _ _=>e) ⟨⟩ (fun _ _ _ _=>⟨⟩) x
def qM (x:Da)(e:R)(k:List Nat→R):R:=
 Da.rec (motive_1:=fun _=>R) (motive_2:=fun _=>PUnit.{1})
  (fun _=>e) (fun _ _=>e) (fun s=>k s) (fun _ _=>e) (fun _ _ _=>e) e (fun _ _=>e) (fun _ _ _ _=>e) e (fun _ _ _=>e) e (fun _ _ _=>e) e (fun _ _ _=>e) (fun _ _=>e) ⟨⟩ (fun _ _ _ _=>⟨⟩) x
def j4 (x:Da)(e:R)(k:Nat→List Da→R):R:=
 Da.rec (motive_1:=fun _=>R) (motive_2:=fun _=>PUnit.{1})
  (fun _=>e) (fun _ _=>e) (fun _=>e) (fun _ _=>e) (fun z es _=>k z es) e (fun _ _=>e) (fun _ _ _ _=>e) e (fun _ _ _=>e) e (fun _ _ _=>e) e (fun z es _=>k z es) (fun _ _=>e) ⟨⟩ (fun _ _ _ _=>⟨⟩) x
def caseO {α:Type}(o:Option α)(e:R)(k:α→R):R:=Option.rec (motive:=fun _=>R) e (fun x=>k x) o
def wv (b:Bool)(t e:R):R:=Bool.rec (motive:=fun _=>R) e t b
theorem iB (b:Bool)(t e:R):wv b t e=bif b then t else e:=by cases b<;>rfl
def bK (b:Bool)(k:D→R):R:=Bool.rec (motive:=fun _=>R) (k (.p (.bool false))) (k (.p (.bool true))) b
theorem aeM (b:Bool)(k:D→R):bK b k=k (.p (.bool b)):=by cases b<;>rfl
def dG (call:aN)(base:Nat)(o:O)(kk:Nat)(vs:List D)(hp:List Ob)(k:KV):R:=
 bif !(df o)||cQ (bb hp (base+kk))then
  match qH call base o kk vs (bQ o vs hp) ((bQ o vs hp).map (bb hp)) hp.length with
  |none=>none
  |some (v,ups,new)=>k v (grow (aD hp ups) new)
 else none
def kc (k:IntKind):Nat:=IntKind.rec (motive:=fun _=>Nat) 0 1 2 3 4 5 6 7 k
theorem aas:∀i j:IntKind,Nat.beq (kc i) (kc j)=decide (i=j):=by
 intro i j;cases i<;>cases j<;>rfl
def iN (n:Int)(p q:Nat→R):R:=Int.rec (motive:=fun _=>R) (fun m=>p m) (fun m=>q m) n
def eqK (m n:Int)(k:Bool→R):R:=
 iN m (fun a=>iN n (fun b=>k (Nat.beq a b)) fun _=>k false) fun a=>iN n (fun _=>k false) fun b=>k (Nat.beq a b)
theorem agD (m n:Int)(k:Bool→R):eqK m n k=k (aB m n):=by cases m<;>cases n<;>rfl
def ltK (m n:Int)(k:Bool→R):R:=
 iN m (fun a=>iN n (fun b=>k (Nat.blt a b)) fun _=>k false) fun a=>iN n (fun _=>k true) fun b=>k (Nat.blt b a)
theorem ag3 (m n:Int)(k:Bool→R):ltK m n k=k (aU m n):=by cases m<;>cases n<;>rfl
def lim (i:IntKind):Nat:=IntKind.rec (motive:=fun _=>Nat) 0 0 2147483648 9223372036854775808 256 0 4294967296 18446744073709551616 i
def aaU (i:IntKind)(m:Nat)(k:D→R):R:=wv (Nat.blt m (lim i)) (k (.p (.int i (.ofNat m)))) (k (.p (.int i (aj i (.ofNat m)))))
theorem SZ (i:IntKind)(m:Nat)(h:Nat.blt m (lim i)=true):aj i (.ofNat m)= .ofNat m:=by
 cases i<;>simp only[lim]at h;case i8=>exact absurd (Nat.ble_eq.mp h) (by omega)
 case i16=>exact absurd (Nat.ble_eq.mp h) (by omega)
 case u16=>exact absurd (Nat.ble_eq.mp h) (by omega)
 all_goals simp only[aj,h,cond_true]
theorem aeb (i:IntKind)(m:Nat)(k:D→R):aaU i m k=k (.p (.int i (aj i (.ofNat m)))):=by
 unfold aaU;rw[iB];cases h:Nat.blt m (lim i)
 ·rfl
 ·rw[SZ i m h];rfl
def uo (o:Option Da)(k:D→R):R:=caseO o none fun x=>k (.p x)
def nbK (b:Bool)(k:D→R):R:=Bool.rec (motive:=fun _=>R) (k (.p (.bool true))) (k (.p (.bool false))) b
theorem aaV (b:Bool)(k:D→R):nbK b k=k (.p (.bool (!b))):=by cases b<;>rfl
def afD (op:BinOp)(i:IntKind)(m n:Int)(e:R)(k:D→R):R:=
 BinOp.rec (motive:=fun _=>R)
  (iN m (fun a=>iN n (fun b=>aaU i (Nat.add a b) k) fun _=>e) fun _=>e)
  (iN m (fun a=>iN n (fun b=>wv (Nat.ble b a) (aaU i (Nat.sub a b) k) e) fun _=>e) fun _=>e)
  (iN m (fun a=>iN n (fun b=>aaU i (Nat.mul a b) k) fun _=>e) fun _=>e)
  e e e e e e e e
  (eqK m n fun b=>bK b k) (eqK m n fun b=>nbK b k) (ltK m n fun b=>bK b k) (ltK n m fun b=>nbK b k) (ltK n m fun b=>bK b k) (ltK m n fun b=>nbK b k) op
theorem aco (op:BinOp)(i:IntKind)(m n:Int)(k:D→R):afD op i m n (uo (bin op (.p (.int i m)) (.p (.int i n))) k) k=uo (bin op (.p (.int i m)) (.p (.int i n))) k:=by
 cases op<;>simp only[afD,agD,ag3,aeM,aaV,aeb];case add=>
  cases m<;>cases n<;>try rfl
  simp[iN,bin,gp,qJ,uo,caseO]
 case sub=>
  cases m<;>cases n<;>try rfl
  rename_i a b;simp only[iN,iB];cases h:Nat.ble b a
  ·rfl
  ·have hle:=Nat.le_of_ble_eq_true h;simp only[cond_true,bin,gp,cond_false,qJ,uo,caseO,if_true];congr 4;exact Int.ofNat_sub hle
 case mul=>
  cases m<;>cases n<;>try rfl
  simp[iN,bin,gp,qJ,uo,caseO]
 all_goals simp[bin,gp,qJ,uo,caseO,bx]
def RE (a:List Nat):List Nat→Bool:=
 List.rec (motive:=fun _=>List Nat→Bool) (fun b=>List.rec (motive:=fun _=>Bool) true (fun _ _ _=>false) b)
  (fun x _ ih b=>List.rec (motive:=fun _=>Bool) false (fun y r _=>Bool.rec (motive:=fun _=>Bool) false (ih r) (Nat.beq x y)) b) a
theorem J3:∀a b,RE a b=aO a b
 |[],[]=>rfl
 |[],_::_=>rfl
 |_::_,[]=>rfl
 |x::a,y::b=>by
  show Bool.rec (motive:=fun _=>Bool) false (RE a b) (Nat.beq x y)=bif Nat.beq x y then aO a b else false
  rw[J3 a b];cases Nat.beq x y<;>rfl
def ahr (op:BinOp)(a b:List Nat)(e:R)(k:D→R):R:=
 BinOp.rec (motive:=fun _=>R) e e e e e e e e e e e (bK (RE a b) k) (nbK (RE a b) k) e e e e op
theorem aeq (op:BinOp)(a b:List Nat)(k:D→R):ahr op a b (uo (bin op (.p (.str a)) (.p (.str b))) k) k=uo (bin op (.p (.str a)) (.p (.str b))) k:=by
 cases op<;>simp only[ahr,aeM,aaV,J3]<;>simp[bin,vH,uo,caseO]
def acl (op:BinOp)(x y:D)(k:D→R):R:=
 gW x none fun a=>Da.rec (motive_1:=fun _=>R) (motive_2:=fun _=>PUnit.{1})
  (fun _=>none) (fun i m=>gW y none fun b=>xe b (uo (bin op x y) k) fun j n=>wv (Nat.beq (kc i) (kc j)) (afD op i m n (uo (bin op x y) k) k) (uo (bin op x y) k))
  (fun s=>gW y none fun b=>qM b none fun t=>ahr op s t (uo (bin op x y) k) k)
  (fun _ _=>none) (fun _ _ _=>none) none (fun _ _=>none) (fun _ _ _ _=>none) none (fun _ _ _=>none) none (fun _ _ _=>none) none (fun _ _ _=>none) (fun _ _=>uo (bin op x y) k) ⟨⟩ (fun _ _ _ _=>⟨⟩) a
theorem VZ (op:BinOp)(a:Da)(y:D)(h:IH a=none)(hs:∀s,a≠ .str s):bin op (.p a) y=none:=by
 cases y<;>try (cases a<;>rfl)
 rename_i b;cases a<;>simp only[IH,reduceCtorEq]at h<;>first
  |rfl
  |exact absurd rfl (hs _)
theorem acm (op:BinOp)(x y:D)(k:D→R):acl op x y k=uo (bin op x y) k:=by
 cases x<;>try rfl
 rename_i a;cases a;case int i m=>
  cases y<;>try rfl
  rename_i b;cases b<;>try rfl
  rename_i j n;show wv (Nat.beq (kc i) (kc j)) _ _=_;rw[aas,iB];by_cases h:i=j
  ·subst h;simp only[decide_true,cond_true];exact aco op i m n k
  ·simp[h]
 case str s=>
  cases y<;>try rfl
  rename_i b;cases b<;>try rfl
  exact aeq op s _ k
 case sym i s=>rfl
 all_goals (rw[VZ op _ y rfl (by intro s h;cases h)];rfl)
def aa6 (c a b:D)(k:D→R):R:=gW c none fun x=>xc x none (k a) (k b)
def ag6 (d:D)(k:D→R):R:=gW d none fun x=>xc x none (k (.p (.bool false))) (k (.p (.bool true)))
def O3 {α:Type}(l:List α)(i:Nat)(k:α→R):R:=
 List.rec (motive:=fun _=>Nat→R) (fun _=>none) (fun x _ ih i=>Nat.rec (motive:=fun _=>R) (k x) (fun i _=>ih i) i) l i
theorem ya {α:Type}(k:α→R):∀(l:List α) (i:Nat),O3 l i k=caseO l[i]? none k
 |[],i=>by simp[O3,caseO]
 |x::r,0=>rfl
 |x::r,i+1=>by
  show O3 r i k=_;rw[ya k r i];simp
def tl {α:Type}(l:List α):List α:=List.rec (motive:=fun _=>List α) [] (fun _ t _=>t) l
def tl4 {α:Type}(l:List α):List α:=tl (tl (tl (tl l)))
def aew {α:Type}(l:List α):List α:=tl4 (tl4 (tl4 (tl4 l)))
def Tw {α:Type}(l:List α)(j:Nat):List α:=Nat.rec (motive:=fun _=>List α) l (fun _ ih=>aew ih) j
theorem abt {α:Type}(l:List α):tl l=l.drop 1:=by cases l<;>rfl
theorem aex {α:Type}(l:List α):aew l=l.drop 16:=by
 simp only[aew,tl4,abt,qε]
theorem EA {α:Type}(l:List α):∀j,Tw l j=l.drop (16*j)
 |0=>rfl
 |j+1=>by
  show aew (Tw l j)=_;rw[aex,EA l j,qε];congr 1
def adJ {α:Type}(l:List α)(i:Nat)(k:α→R):R:=O3 (Tw l (Nat.div i 16)) (Nat.mod i 16) k
theorem TQ {α:Type}(l:List α)(i:Nat)(k:α→R):adJ l i k=caseO l[i]? none k:=by
 unfold adJ;rw[ya,EA,List.getElem?_drop];congr 2;exact Nat.div_add_mod i 16
def atK (es:List Da)(i:Int)(k:Da→R):R:=iN i (fun j=>adJ es j k) fun _=>none
theorem afA (es:List Da)(i:Int)(k:Da→R):atK es i k=caseO (bw es i) none k:=by
 cases i with
 |ofNat j=>exact TQ es j k
 |negSucc j=>rfl
def iaK (esz:Nat)(x i:D)(e:R)(k:D→R):R:=
 gW x e fun x=>j4 x none fun z es=>gW i none fun i=>xe i none fun _ i=>wv (Nat.beq z esz) (atK es i fun y=>k (.ip y 0)) none
def ixK (x i:D)(k:D→R):R:=
 gW x none fun x=>qM x none fun s=>gW i none fun i=>xe i none fun _ i=>iN i (fun j=>adJ s j fun b=>k (.p (.int .u8 (Int.ofNat b)))) fun _=>none
def faK (off:Nat)(d:D)(e:R)(k:D→R):R:=
 D.rec (motive_1:=fun _=>R) (motive_2:=fun _=>PUnit.{1})
  (fun _=>e) (fun _ _=>none) (fun _ _=>none) (fun id o=>k (.box id (o+off))) (fun id i o=>k (.el id i (o+off))) (fun x o=>k (.ip x (o+off)))
  (fun _ _ _ _=>none) (fun _ _ _=>none) (fun _=>none) (fun _ _ _=>none) (fun _ _ _=>none) none ⟨⟩ (fun _ _ _ _=>⟨⟩) d
def aaZ (d:D)(e:R)(k:D→R):R:=
 D.rec (motive_1:=fun _=>R) (motive_2:=fun _=>PUnit.{1})
  (fun _=>e) (fun _ _=>none) (fun _ _=>none) (fun _ _=>k d) (fun _ _ _=>k d) (fun _ _=>k d)
  (fun _ _ _ _=>none) (fun _ _ _=>none) (fun _=>none) (fun _ _ _=>k d) (fun _ _ _=>k d) none ⟨⟩ (fun _ _ _ _=>⟨⟩) d
def oo (o:Ob)(e:R)(k:List D→R):R:=
 Ob.rec (motive:=fun _=>R) (fun cs=>k cs) (fun _=>e) (fun _=>e) (fun _ _=>e) (fun _ _=>e) e e (fun _ _=>e) o
def KR (d:D)(hp:List Ob)(e:R)(k:D→R):R:=
 D.rec (motive_1:=fun _=>R) (motive_2:=fun _=>PUnit.{1})
  (fun _=>e) (fun _ _=>none) (fun _ _=>none)
  (fun id off=>O3 hp id fun o=>oo o none fun cs=>O3 cs off k)
  (fun _ _ _=>e)
  (fun x off=>O3 (cells x) off fun x=>k (.p x))
  (fun _ _ _ _=>none) (fun _ _ _=>none) (fun _=>none) (fun _ _ _=>none) (fun _ _ _=>none) none ⟨⟩ (fun _ _ _ _=>⟨⟩) d
def adC (i:Nat)(d:D)(k:D→R):R:=
 D.rec (motive_1:=fun _=>R) (motive_2:=fun _=>PUnit.{1})
  (fun _=>none) (fun _ _=>none) (fun ds _=>O3 ds i k) (fun _ _=>none) (fun _ _ _=>none) (fun _ _=>none)
  (fun _ _ _ _=>none) (fun _ _ _=>none) (fun _=>none) (fun _ _ _=>none) (fun _ _ _=>none) none ⟨⟩ (fun _ _ _ _=>⟨⟩) d
def OG {α:Type}(l:List α):Nat:=List.rec (motive:=fun _=>Nat) 0 (fun _ _ ih=>Nat.succ ih) l
theorem ov {α:Type}:∀l:List α,OG l=l.length
 |[]=>rfl
 |_::r=>congrArg Nat.succ (ov r)
def AQ (d:D)(k:Nat→R):R:=
 D.rec (motive_1:=fun _=>R) (motive_2:=fun _=>PUnit.{1})
  (fun x=>j4 x none fun _ es=>k (OG es)) (fun _ _=>none) (fun _ _=>none) (fun _ _=>none) (fun _ _ _=>none) (fun _ _=>none) (fun _ _ len _=>k len) (fun _ _ es=>k (OG es)) (fun _=>none) (fun _ _ _=>none) (fun _ _ _=>none) none ⟨⟩ (fun _ _ _ _=>⟨⟩) d
theorem W2 (d:D)(k:Nat→R):AQ d k=caseO (yz d) none k:=by
 cases d<;>try rfl
 ·rename_i x;cases x<;>try rfl
  ·simp only[AQ,gW,j4,ov,yz,caseO]
  ·simp only[AQ,gW,j4,ov,yz,caseO]
 ·simp only[AQ,ov,yz,caseO]
def adW (n:Nat)(k:D→R):R:=Nat.rec (motive:=fun _=>R) (k (.p (.int .i64 (.ofNat 0)))) (fun m _=>k (.p (.int .i64 (.ofNat (Nat.succ m))))) n
theorem TW (n:Nat)(k:D→R):adW n k=k (.p (Ml n)):=by cases n<;>rfl
def agZ (kd:Nat)(d:D)(e:R)(k:D→R):R:=
 Nat.rec (motive:=fun _=>R) (gW d none fun x=>qM x none fun s=>adW (OG s) k)
  (fun j _=>Nat.rec (motive:=fun _=>R) (AQ d fun n=>adW n k) (fun _ _=>e) j) kd
theorem Pn {α:Type}(cs:List α)(off:Nat):sub cs off 1=cs[off]?.map fun x=>[x]:=by
 unfold sub;cases h:Nat.ble (off+1) cs.length
 ·have:cs.length≤off:=by
   rcases lπ off cs.length with h1|h1
   ·rw[Nat.ble_eq.mpr h1]at h;cases h
   ·exact h1
  simp[lζ this]
 ·have h1:off<cs.length:=Nat.ble_eq.mp h;simp[lγ h1,List.take_one,List.head?_drop]
def lE (o:Option gC)(k:D→R):R:=caseO o none fun e=>k e.1
def p6:O→Bool
 | .mv=>true
 | .pick=>true
 | .build _ _=>true
 | .load _ _=>true
 | .nilck=>true
 | .bin _=>true
 | .binB _=>true
 | .binN _ _=>true
 | .binS _ _=>true
 | .un _=>true
 | .conv _=>true
 | .mkif _=>true
 | .mkfn _=>true
 | .slStr _ _=>true
 | .fa _=>true
 | .fld _ _ _=>true
 | .ia _=>true
 | .iaa _ _=>true
 | .ix=>true
 | .lkp _ _ _=>true
 | .ext _=>true
 | .len _=>true
 | .cap=>true
 | .min2=>true
 | .max2=>true
 | .same=>true
 | .assertT _ _ _=>true
 | .b2s=>true
 | .s2b=>true
 |_=>false
def Px (o:Option gC):Prop:=∀e,o=some e→e.2=([],[])
theorem FE:Px none:=by intro e h;cases h
theorem Ix (d:D):Px (val d):=by intro e h;cases h;rfl
theorem Ss (o:Option Da):Px (nD o):=by cases o<;>(intro e h;cases h;try rfl)
theorem Sr (kt:TypeDesc)(z:D)(ok:Bool)(ks:List Da)(ws:List D)(k:D):Px (aaD kt z ok ks ws k):=by
 unfold aaD;repeat' split
 all_goals first
  |exact FE
  |exact Ix _
theorem Bv {call:aN}{base kk:Nat}{o:O}{vs:List D}{ids:List Nat}{obs:List Ob}{len:Nat}(h:p6 o=true):Px (qH call base o kk vs ids obs len):=by
 cases o<;>simp only[p6,Bool.false_eq_true]at h<;>
  simp only[qH,aMv,HG,vD,iK,vE,Nb,S8,S9,Ei,aUn,Ta,Tc,Nh,Ng,qG,aFa,Nc,Tb,Yi,aIx,JN,Rh,VT,Yg,Nf,Nd,sB,VQ,Yj]<;>
  (repeat' (first|exact FE|exact Ix _|exact Ss _|exact Sr _ _ _ _ _ _|split|(simp only[cond_eq_ite])))
theorem Bu {o:O}(h:p6 o=true):df o=false:=by
 cases o<;>simp_all [p6,df]
section eqs
variable {call:aN} {base kk:Nat} {hp:List Ob} {k:KV}
theorem cD {o:O}{vs:List D}(h:p6 o=true):dG call base o kk vs hp k=lE (qH call base o kk vs (bQ o vs hp) ((bQ o vs hp).map (bb hp)) hp.length) fun v=>k v hp:=by
 have hq:=Bv (call:=call) (base:=base) (kk:=kk) (vs:=vs) (ids:=bQ o vs hp) (obs:=(bQ o vs hp).map (bb hp)) (len:=hp.length) h;simp only[dG,Bu h,Bool.not_false,Bool.true_or,cond_true];cases ha:qH call base o kk vs (bQ o vs hp) ((bQ o vs hp).map (bb hp)) hp.length with
 |none=>rfl
 |some e=>
  obtain⟨v,ups,new⟩:=e;have:=hq _ ha;simp only[lε]at this;obtain⟨rfl,rfl⟩:=this;rfl
theorem Wl {o:Option Da}{k:D→R}:lE (nD o) k=uo o k:=by cases o<;>rfl
theorem acp (op:BinOp)(x y:D):dG call base (.bin op) kk [x,y] hp k=acl op x y fun v=>k v hp:=by
 rw[acm,cD rfl];exact Wl
theorem aa9 (c a b:D):dG call base .pick kk [c,a,b] hp k=aa6 c a b fun v=>k v hp:=by
 rw[cD rfl];cases c<;>try rfl
 rename_i x;cases x<;>try rfl
 rename_i b;cases b<;>rfl
theorem aec (x:D):dG call base (.un .not) kk [x] hp k=ag6 x fun v=>k v hp:=by
 rw[cD rfl];cases x<;>try rfl
 rename_i x;cases x<;>try rfl
 rename_i b;cases b<;>rfl
theorem agO (esz:Nat)(x i:D):dG call base (.ia esz) kk [x,i] hp k=iaK esz x i (lE (Tb esz [x,i]) fun v=>k v hp) fun v=>k v hp:=by
 rw[cD rfl];show lE (Tb esz [x,i]) (fun v=>k v hp)=_;cases x<;>try rfl
 rename_i x;cases x<;>try rfl
 all_goals
  rename_i z es;cases i<;>try rfl
  rename_i i;cases i<;>try rfl
  rename_i q i;simp only[Tb,iaK,gW,j4,xe,iB,afA];cases Nat.beq z esz
  ·rfl
  ·simp only[cond_true];cases bw es i<;>rfl
theorem agU (x i:D):dG call base .ix kk [x,i] hp k=ixK x i fun v=>k v hp:=by
 rw[cD rfl];show lE (aIx [x,i]) (fun v=>k v hp)=_;cases x<;>try rfl
 rename_i x;cases x<;>try rfl
 rename_i s;cases i<;>try rfl
 rename_i i;cases i<;>try rfl
 rename_i q i;simp only[aIx,ixK,gW,qM,xe];cases i with
 |negSucc j=>rfl
 |ofNat j=>
  simp only[iN,TQ];have h:(bif bx 0 (Int.ofNat j)then s[(Int.ofNat j).toNat]? else none)=s[j]?:=rfl;rw[h];cases s[j]?<;>rfl
theorem agH (off:Nat)(x:D):dG call base (.fa off) kk [x] hp k=faK off x (lE (aFa off [x]) fun v=>k v hp) fun v=>k v hp:=by
 rw[cD rfl];cases x<;>rfl
theorem WL (x:D):dG call base .nilck kk [x] hp k=aaZ x (lE (vE [x]) fun v=>k v hp) fun v=>k v hp:=by
 rw[cD rfl];cases x<;>rfl
theorem adD (i:Nat)(x:D):dG call base (.ext i) kk [x] hp k=adC i x fun v=>k v hp:=by
 rw[cD rfl];cases x<;>try rfl
 rename_i ds;show lE (Rh i [.tup ds]) (fun v=>k v hp)=_;simp only[Rh,adC,ya];cases ds[i]?<;>rfl
theorem adX (kd:Nat)(x:D):dG call base (.len kd) kk [x] hp k=agZ kd x (lE (VT kd [x] (bQ (.len kd) [x] hp) ((bQ (.len kd) [x] hp).map (bb hp))) fun v=>k v hp) fun v=>k v hp:=by
 rw[cD rfl];match kd with
 |0=>
  cases x<;>try rfl
  rename_i x;cases x<;>try rfl
  simp only[agZ,gW,qM,TW,ov];rfl
 |1=>
  show lE (match yz x with|some n=>val (.p (Ml n))|none=>none) _=AQ x fun n=>adW n fun v=>k v hp
  simp only[W2,TW];cases yz x<;>rfl
 |n+2=>rfl
theorem WJ (x:D):dG call base (.load 1 false) kk [x] hp k=KR x hp (lE (iK 1 false [x] ((dids x).map (bb hp))) fun v=>k v hp) fun v=>k v hp:=by
 rw[cD rfl];cases x<;>try rfl
 ·rename_i id off;show lE (iK 1 false [.box id off] [bb hp id]) (fun v=>k v hp)=_;simp only[KR,ya,iK,bb,lρ];cases hp[id]? with
  |none=>rfl
  |some o=>
   cases o<;>try rfl
   rename_i cs;simp only[Option.getD_some,Pn,caseO,oo];cases cs[off]?<;>rfl
 ·rename_i x off;show lE (iK 1 false [.ip x off] []) (fun v=>k v hp)=_;simp only[KR,ya,iK,Pn];cases(cells x)[off]?<;>rfl
end eqs
end
end Go.Ab
end
section
namespace Go.Ab
open Go
noncomputable section
def forceN (m:Nat)(k:Nat→R):R:=Nat.rec (motive:=fun _=>R) (k 0) (fun m _=>k (Nat.succ m)) m
theorem mu (m:Nat)(k:Nat→R):forceN m k=k m:=by cases m<;>rfl
def Kb (n:Int)(k:Int→R):R:=iN n (fun m=>forceN m fun m=>k (.ofNat m)) fun m=>forceN m fun m=>k (.negSucc m)
theorem H1 (n:Int)(k:Int→R):Kb n k=k n:=by cases n<;>simp only[Kb,iN,mu]
def forceNs (l:List Nat)(k:List Nat→R):R:=
 List.rec (motive:=fun _=>(List Nat→R)→R) (fun k=>k []) (fun x _ ih k=>forceN x fun x=>ih fun r=>k (x::r)) l k
theorem nb:∀(l:List Nat) (k:List Nat→R),forceNs l k=k l
 |[],k=>rfl
 |x::r,k=>by
  show forceN x (fun x=>forceNs r fun r=>k (x::r))=_;rw[mu,nb r]
def t6 (x:Da)(k:Da→R):R:=
 Da.rec (motive_1:=fun _=>R) (motive_2:=fun _=>PUnit.{1})
  (fun b=>Bool.rec (motive:=fun _=>R) (k (.bool false)) (k (.bool true)) b) (fun i n=>Kb n fun n=>k (.int i n)) (fun s=>k (.str s)) (fun cs _=>k (.agg cs)) (fun z es _=>k (.slice z es)) (k .nilptr) (fun x _=>k (.ptr x)) (fun ks vs _ _=>k (.map ks vs)) (k .nilmap) (fun f cs _=>k (.fn f cs)) (k .nilfn) (fun t x _=>k (.iface t x)) (k .nilif) (fun z es _=>k (.sliceE z es)) (fun i s=>k (.sym i s)) ⟨⟩ (fun _ _ _ _=>⟨⟩) x
theorem vQ (x:Da)(k:Da→R):t6 x k=k x:=by
 cases x<;>try rfl
 ·rename_i b;cases b<;>rfl
 ·simp only[t6,H1]
def iz (d:D)(k:D→R):R:=
 D.rec (motive_1:=fun _=>R) (motive_2:=fun _=>PUnit.{1})
  (fun x=>t6 x fun x=>k (.p x)) (fun cs _=>k (.agg cs)) (fun ds _=>k (.tup ds)) (fun id off=>forceN id fun id=>forceN off fun off=>k (.box id off)) (fun id i off=>forceN id fun id=>forceN i fun i=>forceN off fun off=>k (.el id i off)) (fun x off=>k (.ip x off))
  (fun id lo len z=>forceN id fun id=>forceN lo fun lo=>forceN len fun len=>k (.arr id lo len z)) (fun g z es=>k (.sl g z es)) (fun id=>forceN id fun id=>k (.map id)) (fun f cs _=>k (.fn f cs)) (fun t d _=>k (.iface t d)) (k .junk) ⟨⟩ (fun _ _ _ _=>⟨⟩) d
theorem j7 (d:D)(k:D→R):iz d k=k d:=by
 cases d<;>simp only[iz,mu,vQ]
def forceTm (tm:Tm)(k:Tm→R):R:=
 Tm.rec (motive:=fun _=>(Tm→R)→R) (fun k=>k .nil) (fun s d _ ih k=>iz d fun d=>ih fun r=>k (.cons s d r)) tm k
theorem vR:∀(tm:Tm) (k:Tm→R),forceTm tm k=k tm
 | .nil,k=>rfl
 | .cons s d r,k=>by
  show iz d (fun d=>forceTm r fun r=>k (.cons s d r))=_;rw[j7,vR r]
def forceDs (ds:List D)(k:List D→R):R:=
 List.rec (motive:=fun _=>(List D→R)→R) (fun k=>k []) (fun d _ ih k=>iz d fun d=>ih fun r=>k (d::r)) ds k
theorem iA:∀(ds:List D) (k:List D→R),forceDs ds k=k ds
 |[],k=>rfl
 |d::r,k=>by
  show iz d (fun d=>forceDs r fun r=>k (d::r))=_;rw[j7,iA r]
def xB (ds:List Da)(k:List Da→R):R:=
 List.rec (motive:=fun _=>(List Da→R)→R) (fun k=>k []) (fun d _ ih k=>t6 d fun d=>ih fun r=>k (d::r)) ds k
theorem qP:∀(ds:List Da) (k:List Da→R),xB ds k=k ds
 |[],k=>rfl
 |d::r,k=>by
  show t6 d (fun d=>xB r fun r=>k (d::r))=_;rw[vQ,qP r]
def CP (o:Ob)(k:Ob→R):R:=
 Ob.rec (motive:=fun _=>R) (fun cs=>forceDs cs fun cs=>k (.box cs)) (fun es=>xB es fun es=>k (.arr es)) (fun es=>k (.fz es)) (fun ks vs=>k (.map ks vs)) (fun ks vs=>k (.fzm ks vs)) (k .dead) (k .unborn) (fun ks vs=>forceDs vs fun vs=>k (.mapd ks vs)) o
theorem RI (o:Ob)(k:Ob→R):CP o k=k o:=by
 cases o<;>simp only[CP,iA,qP]
def t7 (hp:List Ob)(k:List Ob→R):R:=
 List.rec (motive:=fun _=>(List Ob→R)→R) (fun k=>k []) (fun o _ ih k=>CP o fun o=>ih fun r=>k (o::r)) hp k
theorem m9:∀(hp:List Ob) (k:List Ob→R),t7 hp k=k hp
 |[],k=>rfl
 |o::r,k=>by
  show CP o (fun o=>t7 r fun r=>k (o::r))=_;rw[RI,m9 r]
def CO (o:Ob)(k:Ob→R):R:=
 Ob.rec (motive:=fun _=>R) (fun cs=>forceDs cs fun cs=>k (.box cs)) (fun es=>k (.arr es)) (fun es=>k (.fz es)) (fun ks vs=>k (.map ks vs)) (fun ks vs=>k (.fzm ks vs)) (k .dead) (k .unborn) (fun ks vs=>forceDs vs fun vs=>k (.mapd ks vs)) o
theorem RH (o:Ob)(k:Ob→R):CO o k=k o:=by
 cases o<;>simp only[CO,iA]
def forceHb (hp:List Ob)(k:List Ob→R):R:=
 List.rec (motive:=fun _=>(List Ob→R)→R) (fun k=>k []) (fun o _ ih k=>CO o fun o=>ih fun r=>k (o::r)) hp k
theorem m8:∀(hp:List Ob) (k:List Ob→R),forceHb hp k=k hp
 |[],k=>rfl
 |o::r,k=>by
  show CO o (fun o=>forceHb r fun r=>k (o::r))=_;rw[RH,m8 r]
def ad6 (l:List Nat)(x:Nat):Bool:=List.rec (motive:=fun _=>Bool) false (fun y _ ih=>Bool.rec (motive:=fun _=>Bool) ih true (Nat.beq x y)) l
theorem T3 (x:Nat):∀l,ad6 l x=l.contains x
 |[]=>rfl
 |y::r=>by
  show Bool.rec (motive:=fun _=>Bool) (ad6 r x) true (Nat.beq x y)=_;rw[T3 x r,List.contains_cons];have:(x==y)=Nat.beq x y:=by rw[mθ,beq_iff_eq,Nat.beq_eq]
  rw[this];cases Nat.beq x y<;>rfl
def Uy (l:List Nat)(x:Nat):List Nat:=List.rec (motive:=fun _=>List Nat) [x] (fun y _ ih=>y::ih) l
theorem P4 (x:Nat):∀l,Uy l x=l++[x]
 |[]=>rfl
 |y::r=>by
  show y::Uy r x=_;rw[P4 x r];rfl
def Mm (hp:List Ob)(i:Nat):Ob:=List.rec (motive:=fun _=>Nat→Ob) (fun _=> .dead) (fun o _ ih i=>Nat.rec (motive:=fun _=>Ob) o (fun i _=>ih i) i) hp i
theorem oZ:∀(hp:List Ob) (i:Nat),Mm hp i=hp.getD i .dead
 |[],i=>by simp[Mm]
 |o::r,0=>rfl
 |o::r,i+1=>by
  show Mm r i=_;rw[oZ r i];simp
def HT (d:D):List Nat→List Nat:=
 D.rec (motive_1:=fun _=>List Nat→List Nat) (motive_2:=fun _=>List Nat→List Nat)
  (fun _ ws=>ws) (fun _ ih ws=>ih ws) (fun _ ih ws=>ih ws) (fun id _ ws=>id::ws) (fun id _ _ ws=>id::ws) (fun _ _ ws=>ws)
  (fun id _ _ _ ws=>id::ws) (fun _ _ _ ws=>ws) (fun id ws=>id::ws) (fun _ _ ih ws=>ih ws) (fun _ _ ih ws=>ih ws) (fun ws=>ws) (fun ws=>ws) (fun _ _ ihd ihr ws=>ihd (ihr ws)) d
def gy (ds:List D)(ws:List Nat):List Nat:=List.rec (motive:=fun _=>List Nat) ws (fun d _ ih=>HT d ih) ds
mutual
theorem xk:∀(d:D) (ws:List Nat),HT d ws=dids d++ws
 | .p _,ws=>rfl
 | .agg cs,ws=>xm cs ws
 | .tup cs,ws=>xm cs ws
 | .box _ _,ws=>rfl
 | .el _ _ _,ws=>rfl
 | .ip _ _,ws=>rfl
 | .arr _ _ _ _,ws=>rfl
 | .sl _ _ _,ws=>rfl
 | .map _,ws=>rfl
 | .fn _ cs,ws=>xm cs ws
 | .iface _ d,ws=>xk d ws
 | .junk,ws=>rfl
theorem xm:∀(ds:List D) (ws:List Nat),D.rec_1 (motive_1:=fun _=>List Nat→List Nat) (motive_2:=fun _=>List Nat→List Nat)
  (fun _ ws=>ws) (fun _ ih ws=>ih ws) (fun _ ih ws=>ih ws) (fun id _ ws=>id::ws) (fun id _ _ ws=>id::ws) (fun _ _ ws=>ws)
  (fun id _ _ _ ws=>id::ws) (fun _ _ _ ws=>ws) (fun id ws=>id::ws) (fun _ _ ih ws=>ih ws) (fun _ _ ih ws=>ih ws) (fun ws=>ws) (fun ws=>ws) (fun _ _ ihd ihr ws=>ihd (ihr ws)) ds ws=dids.didsL ds++ws
 |[],ws=>rfl
 |d::r,ws=>by
  show HT d (D.rec_1 (motive_1:=fun _=>List Nat→List Nat) (motive_2:=fun _=>List Nat→List Nat) _ _ _ _ _ _ _ _ _ _ _ _ _ _ r ws)=_;rw[xk d,xm r];simp only[dids.didsL,mμ]
end
theorem gm (ws:List Nat):∀ds,gy ds ws=dids.didsL ds++ws
 |[]=>rfl
 |d::r=>by
  show HT d (gy r ws)=_;rw[xk,gm ws r];simp only[dids.didsL,mμ]
def Fj (o:Ob)(ws:List Nat):List Nat:=Ob.rec (motive:=fun _=>List Nat) (fun cs=>gy cs ws) (fun _=>ws) (fun _=>ws) (fun _ _=>ws) (fun _ _=>ws) ws ws (fun _ vs=>gy vs ws) o
theorem Im (o:Ob)(ws:List Nat):Fj o ws=lN o++ws:=by
 cases o<;>first|rfl|exact gm ws _
def iy (hp:List Ob)(n:Nat):List Nat→List Nat→List Nat:=
 Nat.rec (motive:=fun _=>List Nat→List Nat→List Nat) (fun _ acc=>acc)
  (fun _ ih ws acc=>List.rec (motive:=fun _=>List Nat) acc (fun id ws _=>Bool.rec (motive:=fun _=>List Nat) (ih (Fj (Mm hp id) ws) (Uy acc id)) (ih ws acc) (ad6 acc id)) ws) n
theorem fu (hp:List Ob):∀(n:Nat) (ws acc:List Nat),iy hp n ws acc=cz hp n ws acc
 |0,ws,acc=>rfl
 |n+1,[],acc=>rfl
 |n+1,id::ws,acc=>by
  show Bool.rec (motive:=fun _=>List Nat) (iy hp n (Fj (Mm hp id) ws) (Uy acc id)) (iy hp n ws acc) (ad6 acc id)=_;rw[fu hp n,fu hp n,T3,P4,Im,oZ];simp only[cz];cases acc.contains id<;>simp
def lH (ids:List Nat)(id:Nat):Option Nat:=
 List.rec (motive:=fun _=>Nat→Option Nat) (fun _=>none) (fun x _ ih n=>Bool.rec (motive:=fun _=>Option Nat) (ih (Nat.succ n)) (some n) (Nat.beq x id)) ids 0
theorem mg (ids:List Nat):lH ids=idx ids:=by
 funext id
 have go:∀(l:List Nat) (n:Nat),List.rec (motive:=fun _=>Nat→Option Nat) (fun _=>none) (fun x _ ih n=>Bool.rec (motive:=fun _=>Option Nat) (ih (Nat.succ n)) (some n) (Nat.beq x id)) l n=idx.go id l n:=by
  intro l;induction l with
  |nil=>intro n;rfl
  |cons x r ih=>
   intro n;show Bool.rec (motive:=fun _=>Option Nat) _ (some n) (Nat.beq x id)=bif Nat.beq x id then some n else idx.go id r (n+1)
   rw[←ih (n+1)];cases Nat.beq x id<;>rfl
 exact go ids 0
def jJ (σ:Nat→Option Nat)(d:D):D:=
 D.rec (motive_1:=fun _=>D) (motive_2:=fun _=>List D)
  (fun x=> .p x) (fun _ ih=> .agg ih) (fun _ ih=> .tup ih) (fun id off=>Option.rec (motive:=fun _=>D) .junk (fun j=> .box j off) (σ id)) (fun id i off=>Option.rec (motive:=fun _=>D) .junk (fun j=> .el j i off) (σ id)) (fun x off=> .ip x off)
  (fun id lo len z=>Option.rec (motive:=fun _=>D) .junk (fun j=> .arr j lo len z) (σ id)) (fun g z es=> .sl g z es) (fun id=>Option.rec (motive:=fun _=>D) .junk (fun j=> .map j) (σ id)) (fun f _ ih=> .fn f ih) (fun t _ ih=> .iface t ih) .junk [] (fun _ _ ihd ihr=>ihd::ihr) d
def gA (σ:Nat→Option Nat)(ds:List D):List D:=List.rec (motive:=fun _=>List D) [] (fun d _ ih=>jJ σ d::ih) ds
mutual
theorem hU (σ:Nat→Option Nat):∀(d:D),jJ σ d=mapD σ d
 | .p _=>rfl
 | .agg cs=>by show D.agg _=_;rw[xY σ cs];rfl
 | .tup cs=>by show D.tup _=_;rw[xY σ cs];rfl
 | .box id _=>by simp only[jJ,mapD];cases σ id<;>rfl
 | .el id _ _=>by simp only[jJ,mapD];cases σ id<;>rfl
 | .ip _ _=>rfl
 | .arr id _ _ _=>by simp only[jJ,mapD];cases σ id<;>rfl
 | .sl _ _ _=>rfl
 | .map id=>by simp only[jJ,mapD];cases σ id<;>rfl
 | .fn _ cs=>by show D.fn _ _=_;rw[xY σ cs];rfl
 | .iface _ d=>by
  show D.iface _ (jJ σ d)=_;rw[hU σ d];rfl
 | .junk=>rfl
theorem xY (σ:Nat→Option Nat):∀(ds:List D),D.rec_1 (motive_1:=fun _=>D) (motive_2:=fun _=>List D)
  (fun x=> .p x) (fun _ ih=> .agg ih) (fun _ ih=> .tup ih) (fun id off=>Option.rec (motive:=fun _=>D) .junk (fun j=> .box j off) (σ id)) (fun id i off=>Option.rec (motive:=fun _=>D) .junk (fun j=> .el j i off) (σ id)) (fun x off=> .ip x off)
  (fun id lo len z=>Option.rec (motive:=fun _=>D) .junk (fun j=> .arr j lo len z) (σ id)) (fun g z es=> .sl g z es) (fun id=>Option.rec (motive:=fun _=>D) .junk (fun j=> .map j) (σ id)) (fun f _ ih=> .fn f ih) (fun t _ ih=> .iface t ih) .junk [] (fun _ _ ihd ihr=>ihd::ihr) ds=mapD.mapDL σ ds
 |[]=>rfl
 |d::r=>by
  show jJ σ d::_=_;rw[xY σ r,hU σ d];rfl
end
theorem j9 (σ:Nat→Option Nat):∀ds,gA σ ds=mapD.mapDL σ ds
 |[]=>rfl
 |d::r=>by
  show jJ σ d::gA σ r=_;rw[hU,j9 σ r];rfl
def sX (σ:Nat→Option Nat)(o:Ob):Ob:=Ob.rec (motive:=fun _=>Ob) (fun cs=> .box (gA σ cs)) (fun es=> .arr es) (fun es=> .fz es) (fun ks vs=> .map ks vs) (fun ks vs=> .fzm ks vs) .dead .unborn (fun ks vs=> .mapd ks (gA σ vs)) o
theorem If (σ:Nat→Option Nat)(o:Ob):sX σ o=cB σ o:=by
 cases o<;>try rfl
 ·simp only[sX,cB,j9]
 ·simp only[sX,cB,j9]
def qZ (ids:List Nat)(hp:List Ob):List Ob:=List.rec (motive:=fun _=>List Ob) [] (fun i _ ih=>sX (lH ids) (Mm hp i)::ih) ids
theorem nr (ids:List Nat)(hp:List Ob):qZ ids hp=ce ids hp:=by
 have go:∀l:List Nat,List.rec (motive:=fun _=>List Ob) [] (fun i _ ih=>sX (lH ids) (Mm hp i)::ih) l=l.map fun i=>cB (idx ids) (bb hp i):=by
  intro l;induction l with
  |nil=>rfl
  |cons x r ih=>
   show sX (lH ids) (Mm hp x)::_=_;rw[ih,If,mg,oZ];rfl
 exact go ids
def rA (σ:Nat→Option Nat)(hp:List Ob):List Ob:=List.rec (motive:=fun _=>List Ob) [] (fun o _ ih=>sX σ o::ih) hp
theorem pO (σ:Nat→Option Nat):∀hp,rA σ hp=hp.map (cB σ)
 |[]=>rfl
 |o::r=>by
  show sX σ o::rA σ r=_;rw[If,pO σ r];rfl
def kA (m:Nat)(hp:List Ob):List Nat:=List.rec (motive:=fun _=>Nat→List Nat) (fun _=>[]) (fun o _ ih m=>Nat.rec (motive:=fun _=>List Nat) [] (fun m _=>Fj o (ih m)) m) hp m
theorem ka:∀(hp:List Ob) (m:Nat),kA m hp=(hp.take m).flatMap lN
 |[],m=>by simp[kA]
 |o::r,0=>rfl
 |o::r,m+1=>by
  show Fj o (kA m r)=_;rw[Im,ka r m];simp
def Hs (hp:List Ob)(i:Nat)(o:Ob)(k:List Ob→R):R:=
 List.rec (motive:=fun _=>Nat→(List Ob→R)→R) (fun _ k=>k []) (fun x r ih i k=>Nat.rec (motive:=fun _=>R) (k (o::r)) (fun i _=>ih i fun r=>k (x::r)) i) hp i k
theorem yx (o:Ob):∀(hp:List Ob) (i:Nat) (k:List Ob→R),Hs hp i o k=k (yy hp i o)
 |[],i,k=>by simp[Hs,yy]
 |x::r,0,k=>rfl
 |x::r,i+1,k=>by
  show Hs r i o (fun r=>k (x::r))=_;rw[yx o r i];rfl
def unb (o:Ob)(t:R):R:=Ob.rec (motive:=fun _=>R) (fun _=>none) (fun _=>none) (fun _=>none) (fun _ _=>none) (fun _ _=>none) none t (fun _ _=>none) o
theorem SU (o:Ob)(t:R):unb o t=bif cQ o then t else none:=by cases o<;>rfl
def UB (l:List Nat)(n:Nat)(k:List Nat→R):R:=
 List.rec (motive:=fun _=>Nat→(List Nat→R)→R) (fun _ k=>k []) (fun x _ ih n k=>Nat.rec (motive:=fun _=>R) (k []) (fun n _=>ih n fun r=>k (x::r)) n) l n k
theorem P6:∀(l:List Nat) (n:Nat) (k:List Nat→R),UB l n k=k (l.take n)
 |[],n,k=>by simp[UB]
 |x::r,0,k=>rfl
 |x::r,n+1,k=>by
  show UB r n (fun r=>k (x::r))=_;rw[P6 r n];rfl
def tlN {α:Type}(l:List α)(n:Nat):List α:=Nat.rec (motive:=fun _=>List α) l (fun _ ih=>tl ih) n
theorem SP {α:Type}(l:List α):∀n,tlN l n=l.drop n
 |0=>rfl
 |n+1=>by
  show tl (tlN l n)=_;rw[abt,SP l n,qε]
def ZL {α:Type}(l:List α)(n:Nat):List α:=tlN (Tw l (Nat.div n 16)) (Nat.mod n 16)
theorem ZM {α:Type}(l:List α)(n:Nat):ZL l n=l.drop n:=by
 unfold ZL;rw[SP,EA,qε];congr 1;exact Nat.div_add_mod n 16
def okF (d:D):Bool:=
 D.rec (motive_1:=fun _=>Bool) (motive_2:=fun _=>PUnit.{1})
  (fun _=>true) (fun _ _=>false) (fun _ _=>false) (fun _ _=>true) (fun _ _ _=>true) (fun _ _=>true) (fun _ _ _ _=>true) (fun _ _ _=>true) (fun _=>true) (fun _ _ _=>true) (fun _ _ _=>true) false ⟨⟩ (fun _ _ _ _=>⟨⟩) d
theorem aha (d:D):okF d=dR d:=by cases d<;>rfl
def aac (xs:List D)(n:Nat):Bool:=
 List.rec (motive:=fun _=>Nat→Bool) (fun n=>Nat.rec (motive:=fun _=>Bool) true (fun _ _=>false) n) (fun d _ ih n=>Nat.rec (motive:=fun _=>Bool) false (fun m _=>Bool.rec (motive:=fun _=>Bool) false (ih m) (okF d)) n) xs n
theorem Ka:∀(xs:List D) (n:Nat),aac xs n=(Nat.beq xs.length n&&xs.all dR)
 |[],0=>rfl
 |[],n+1=>rfl
 |d::r,0=>rfl
 |d::r,n+1=>by
  show Bool.rec (motive:=fun _=>Bool) false (aac r n) (okF d)=(Nat.beq r.length n&&(dR d&&r.all dR));rw[Ka r n,aha];cases dR d<;>simp
def aam {α:Type}(xs:List α)(n:Nat):Bool:=
 List.rec (motive:=fun _=>Nat→Bool) (fun n=>Nat.rec (motive:=fun _=>Bool) true (fun _ _=>false) n) (fun _ _ ih n=>Nat.rec (motive:=fun _=>Bool) true (fun m _=>ih m) n) xs n
theorem CQ {α:Type}:∀(xs:List α) (n:Nat),aam xs n=Nat.ble n xs.length
 |[],0=>rfl
 |[],n+1=>rfl
 |d::r,0=>rfl
 |d::r,n+1=>CQ r n
def Ug (xs:List D):List D→List D:=List.rec (motive:=fun _=>List D→List D) (fun cs=>cs) (fun x _ ih cs=>x::ih (tl cs)) xs
theorem Pq:∀(xs cs:List D),Ug xs cs=xs++cs.drop xs.length
 |[],cs=>rfl
 |x::r,cs=>by
  show x::Ug r (tl cs)=_;rw[Pq r,abt,qε];simp[Nat.add_comm]
def W5 (cs:List D)(off:Nat)(xs:List D):List D:=
 List.rec (motive:=fun _=>Nat→List D) (fun _=>xs) (fun c r ih off=>Nat.rec (motive:=fun _=>List D) (Ug xs (c::r)) (fun o _=>c::ih o) off) cs off
theorem Mb (xs:List D):∀(cs:List D) (off:Nat),W5 cs off xs=splice cs off xs
 |[],off=>by simp[W5,splice]
 |c::r,0=>by
  show Ug xs (c::r)=_;rw[Pq];simp[splice]
 |c::r,o+1=>by
  show c::W5 r o xs=_;rw[Mb xs r o];simp[splice,Nat.add_right_comm]
def aaM (cs:List Da):List D:=List.rec (motive:=fun _=>List D) [] (fun x _ ih=> .p x::ih) cs
theorem CV:∀cs,aaM cs=cs.map .p
 |[]=>rfl
 |c::r=>by show D.p c::aaM r=_;rw[CV r];rfl
def xj (d:D)(k:List D→R):R:=
 D.rec (motive_1:=fun _=>R) (motive_2:=fun _=>PUnit.{1})
  (fun x=>Da.rec (motive_1:=fun _=>R) (motive_2:=fun _=>PUnit.{1})
   (fun _=>k [d]) (fun _ _=>k [d]) (fun _=>k [d]) (fun cs _=>k (aaM cs)) (fun _ _ _=>k [d]) (k [d]) (fun _ _=>k [d]) (fun _ _ _ _=>k [d]) (k [d]) (fun _ _ _=>k [d]) (k [d]) (fun _ _ _=>k [d]) (k [d]) (fun _ _ _=>k [d]) (fun _ _=>k [d]) ⟨⟩ (fun _ _ _ _=>⟨⟩) x)
  (fun ds _=>k ds) (fun _ _=>k [d]) (fun _ _=>k [d]) (fun _ _ _=>k [d]) (fun _ _=>k [d]) (fun _ _ _ _=>k [d]) (fun _ _ _=>k [d]) (fun _=>k [d]) (fun _ _ _=>k [d]) (fun _ _ _=>k [d]) (k [d]) ⟨⟩ (fun _ _ _ _=>⟨⟩) d
theorem Ey (d:D)(k:List D→R):xj d k=k (ck d):=by
 cases d<;>try rfl
 rename_i x;cases x<;>try rfl
 simp only[xj,CV,ck]
def Yo (ds:List D)(e:R)(k:List Da→R):R:=
 List.rec (motive:=fun _=>(List Da→R)→R) (fun k=>k [])
  (fun d _ ih k=>gW d e fun x=>ih fun xs=>k (x::xs)) ds k
theorem Nk (e:R):∀(ds:List D) (k:List Da→R),Yo ds e k=match jQ ds with
  |some xs=>k xs
  |none=>e
 |[],k=>rfl
 |d::r,k=>by
  cases d<;>try rfl
  rename_i x;show Yo r e (fun xs=>k (x::xs))=_;rw[Nk e r];simp only[jQ];cases jQ r<;>rfl
def KX (ds:List D)(k:D→R):R:=Yo ds (k (.agg ds)) fun xs=>k (.p (.agg xs))
theorem Ih (ds:List D)(k:D→R):KX ds k=k (Ff ds):=by
 simp only[KX,Nk,Ff];cases jQ ds<;>rfl
def aaa (ps:List (Nat×Nat)):List D→List D→(List D→R)→R:=
 List.rec (motive:=fun _=>List D→List D→(List D→R)→R)
  (fun cs ds k=>List.rec (motive:=fun _=>R) (k cs) (fun _ _ _=>none) ds)
  (fun p _ ih cs ds k=>List.rec (motive:=fun _=>R) none (fun d ds _=>xj d fun xs=>wv (aac xs p.2) (wv (aam cs (Nat.add p.1 p.2)) (ih (W5 cs p.1 xs) ds k) none) none) ds) ps
theorem N3:∀(ps:List (Nat×Nat)) (cs ds:List D) (k:List D→R),aaa ps cs ds k=caseO (uI cs ps ds) none k
 |[],cs,[],k=>rfl
 |[],cs,d::ds,k=>rfl
 |p::ps,cs,[],k=>rfl
 |(off,n)::ps,cs,d::ds,k=>by
  show xj d (fun xs=>wv (aac xs n) (wv (aam cs (Nat.add off n)) (aaa ps (W5 cs off xs) ds k) none) none)=_
  simp only[Ey,iB,Ka,CQ,Mb,N3 ps,uI];have:Nat.add off n=off+n:=rfl;rw[this];cases Nat.beq (ck d).length n<;>cases(ck d).all dR<;>cases Nat.ble (off+n) cs.length<;>rfl
def JR (zs:List D)(ps:List (Nat×Nat))(vs:List D)(k:D→R):R:=aaa ps zs vs fun cs=>KX cs k
def abr {α:Type}(l:List α)(n:Nat)(k:List α→R):R:=
 List.rec (motive:=fun _=>Nat→(List α→R)→R) (fun n k=>Nat.rec (motive:=fun _=>R) (k []) (fun _ _=>none) n) (fun x _ ih n k=>Nat.rec (motive:=fun _=>R) (k []) (fun n _=>ih n fun r=>k (x::r)) n) l n k
theorem P7 {α:Type}:∀(l:List α) (n:Nat) (k:List α→R),abr l n k=bif Nat.ble n l.length then k (l.take n)else none
 |[],0,k=>rfl
 |[],n+1,k=>rfl
 |x::r,0,k=>rfl
 |x::r,n+1,k=>by
  show abr r n (fun r=>k (x::r))=_;rw[P7 r n];rfl
def SO {α:Type}(l:List α)(off n:Nat)(k:List α→R):R:=wv (aam l off) (abr (tlN l off) n k) none
def wd (agg:Bool)(ds:List D)(k:D→R):R:=Bool.rec (motive:=fun _=>R) (List.rec (motive:=fun _=>R) none (fun d r _=>List.rec (motive:=fun _=>R) (k d) (fun _ _ _=>none) r) ds) (KX ds k) agg
theorem pU (agg:Bool)(ds:List D)(k:D→R):wd agg ds k=caseO (eI agg ds) none k:=by
 cases agg with
 |true=>simp only[wd,Ih,eI,cond_true,caseO]
 |false=>
  match ds with
  |[]=>rfl
  |[d]=>rfl
  |_::_::_=>rfl
def TZ (n:Nat)(agg:Bool)(d:D)(hp:List Ob)(e:R)(k:D→R):R:=
 D.rec (motive_1:=fun _=>R) (motive_2:=fun _=>PUnit.{1})
  (fun _=>e) (fun _ _=>none) (fun _ _=>none)
  (fun id off=>oo (Mm hp id) none fun cs=>SO cs off n fun ds=>wd agg ds k)
  (fun _ _ _=>e)
  (fun x off=>SO (cells x) off n fun xs=>wd agg (aaM xs) k)
  (fun _ _ _ _=>none) (fun _ _ _=>none) (fun _=>none) (fun _ _ _=>none) (fun _ _ _=>none) none ⟨⟩ (fun _ _ _ _=>⟨⟩) d
def aad (off n:Nat)(agg:Bool)(d:D)(k:D→R):R:=
 D.rec (motive_1:=fun _=>R) (motive_2:=fun _=>PUnit.{1})
  (fun x=>Da.rec (motive_1:=fun _=>R) (motive_2:=fun _=>PUnit.{1})
   (fun _=>none) (fun _ _=>none) (fun _=>none) (fun cs _=>SO cs off n fun xs=>wd agg (aaM xs) k) (fun _ _ _=>none) none (fun _ _=>none) (fun _ _ _ _=>none) none (fun _ _ _=>none) none (fun _ _ _=>none) none (fun _ _ _=>none) (fun _ _=>none) ⟨⟩ (fun _ _ _ _=>⟨⟩) x)
  (fun ds _=>SO ds off n fun ds=>wd agg ds k) (fun _ _=>none) (fun _ _=>none) (fun _ _ _=>none) (fun _ _=>none) (fun _ _ _ _=>none) (fun _ _ _=>none) (fun _=>none) (fun _ _ _=>none) (fun _ _ _=>none) none ⟨⟩ (fun _ _ _ _=>⟨⟩) d
def JO (base kk:Nat)(zs:List D)(hp:List Ob)(k:KV):R:=
 forceN (Nat.add base kk) fun id=>unb (Mm hp id) (Hs hp id (.box zs) fun hp=>k (.box id 0) hp)
def acu (base:Nat)(n kk:Nat)(d:D)(hp:List Ob)(k:KV):R:=
 forceN (Nat.add base kk) fun id=>unb (Mm hp id) (forceDs (ck d) fun cs=>wv (Nat.beq cs.length n&&cs.all dR) (Hs hp id (.box cs) fun hp=>k (.box id 0) hp) none)
def SM (n:Nat)(a d:D)(hp:List Ob)(e:R)(k:KV):R:=
 D.rec (motive_1:=fun _=>R) (motive_2:=fun _=>PUnit.{1})
  (fun _=>none) (fun _ _=>none) (fun _ _=>none)
  (fun id off=>oo (Mm hp id) none fun cs=>xj d fun xs=>wv (aac xs n) (wv (aam cs (Nat.add off n)) (forceDs (W5 cs off xs) fun cs=>Hs hp id (.box cs) fun hp=>k .junk hp) none) none)
  (fun _ _ _=>e) (fun _ _=>none)
  (fun _ _ _ _=>none) (fun _ _ _=>none) (fun _=>none) (fun _ _ _=>none) (fun _ _ _=>none) none ⟨⟩ (fun _ _ _ _=>⟨⟩) a
section eqs
variable {call:aN} {base kk:Nat} {hp:List Ob} {k:KV}
theorem VU (zs:List D):dG call base (.alloc zs) kk [] hp k=JO base kk zs hp k:=by
 simp only[JO,mu,SU,yx,oZ];rfl
theorem acv (n:Nat)(d:D):dG call base (.box n) kk [d] hp k=acu base n kk d hp k:=by
 simp only[acu,mu,SU,yx,oZ,iA,iB];show(bif cQ (bb hp (base+kk))then match Yc n base kk [d]with
  |none=>none
  |some (v,ups,new)=>k v (grow (aD hp ups) new)else none)=_
 simp only[Yc];have:bb hp (base+kk)=hp.getD (Nat.add base kk) .dead:=rfl;rw[this];cases cQ (hp.getD (Nat.add base kk) .dead)
 ·rfl
 ·simp only[cond_true];cases(Nat.beq (ck d).length n&&(ck d).all dR)<;>rfl
theorem Xa (n:Nat)(a d:D):dG call base (.store n) kk [a,d] hp k=SM n a d hp (dG call base (.store n) kk [a,d] hp k) k:=by
 cases a<;>try rfl
 rename_i id off;simp only[SM,yx,oZ,iA,iB,Ey,Ka,CQ,Mb];have hn:bQ (.store n) [.box id off,d] hp=id::(dids d++[]):=rfl;have hl:hT ((id::(dids d++[])).zip ((id::(dids d++[])).map (bb hp))) id=bb hp id:=by
  simp only[List.map_cons,List.zip_cons_cons,hT,show Nat.beq id id=true from Nat.beq_refl id,cond_true]
 simp only[dG,df,Bool.not_false,Bool.true_or,cond_true,qH,vF,hn,hl];have:bb hp id=hp.getD id .dead:=rfl;rw[this];cases hp.getD id .dead<;>try rfl
 rename_i cs;have h2:Nat.add off n=off+n:=rfl;simp only[oo,h2];cases Nat.beq (ck d).length n<;>cases(ck d).all dR<;>cases Nat.ble (off+n) cs.length<;>rfl
theorem yB {α:Type}(l:List α)(off n:Nat)(f:List α→R):SO l off n f=caseO (sub l off n) none f:=by
 unfold SO sub;rw[iB,CQ,SP,P7,qξ];cases h:Nat.ble (off+n) l.length
 ·cases h1:Nat.ble off l.length
  ·rfl
  ·have:Nat.ble n (l.length - off)=false:=by
    rw[←Bool.not_eq_true,Nat.ble_eq]at h ⊢
    have:=Nat.le_of_ble_eq_true h1;omega
   rw[this];rfl
 ·have:=Nat.le_of_ble_eq_true h;rw[Nat.ble_eq.mpr (by omega:off≤l.length),Nat.ble_eq.mpr (by omega:n≤l.length - off)];rfl
theorem aaH (n:Nat)(agg:Bool)(x:D):dG call base (.load n agg) kk [x] hp k=TZ n agg x hp (lE (iK n agg [x] ((dids x).map (bb hp))) fun v=>k v hp) fun v=>k v hp:=by
 rw[cD rfl];cases x<;>try rfl
 ·rename_i id off;show lE (iK n agg [.box id off] [bb hp id]) (fun v=>k v hp)=_;simp only[TZ,iK,oZ,yB,pU];have:bb hp id=hp.getD id .dead:=rfl;rw[this];cases hp.getD id .dead<;>try rfl
  rename_i cs;simp only[oo];cases sub cs off n with
  |none=>rfl
  |some ds=>
   simp only[caseO];cases eI agg ds<;>rfl
 ·rename_i x off;show lE (iK n agg [.ip x off] []) (fun v=>k v hp)=_;simp only[TZ,iK,yB,pU,CV];cases sub (cells x) off n with
  |none=>rfl
  |some ds=>
   simp only[caseO];cases eI agg (ds.map .p)<;>rfl
theorem aer {α β:Type}(f:α→β)(l:List α)(off n:Nat):sub (l.map f) off n=(sub l off n).map (List.map f):=by
 unfold sub;rw[lβ];cases Nat.ble (off+n) l.length
 ·rfl
 ·simp[List.map_drop,List.map_take]
theorem adF (off n:Nat)(agg:Bool)(x:D):dG call base (.fld off n agg) kk [x] hp k=aad off n agg x fun v=>k v hp:=by
 rw[cD rfl];show lE (Nc off n agg [x]) (fun v=>k v hp)=_;cases x<;>try rfl
 ·rename_i x;cases x<;>try rfl
  rename_i cs;simp only[Nc,aad,yB,pU,CV,aer];cases sub cs off n with
  |none=>rfl
  |some ds=>
   simp only[Option.map_some,caseO];cases eI agg (ds.map .p)<;>rfl
 ·rename_i cs;simp only[Nc,aad,yB,pU];cases sub cs off n with
  |none=>rfl
  |some ds=>
   simp only[caseO];cases eI agg ds<;>rfl
theorem V1 (zs:List D)(ps:List (Nat×Nat))(vs:List D):dG call base (.build zs ps) kk vs hp k=JR zs ps vs fun v=>k v hp:=by
 rw[cD rfl];show lE (vD zs ps vs) (fun v=>k v hp)=_;simp only[vD,JR,N3,Ih];cases uI zs ps vs<;>rfl
end eqs
def afa (n:Nat)(agg:Bool)(x:D)(hp:List Ob)(k:D→R):R:=TZ n agg x hp (lE (iK n agg [x] ((dids x).map (bb hp))) k) k
def Mc (call:aN)(base n kk:Nat)(a d:D)(hp:List Ob)(k:KV):R:=
 SM n a d hp (dG call base (.store n) kk [a,d] hp fun v hp=>t7 hp fun hp=>k v hp) k
def aah (call:aN)(base:Nat)(o:O)(kk:Nat)(vs:List D)(hp:List Ob)(k:KV):R:=
 dG call base o kk vs hp fun v hp=>iz v fun v=>t7 hp fun hp=>k v hp
theorem Ke (call:aN)(base:Nat)(o:O)(kk:Nat)(vs:List D)(hp:List Ob)(k:KV):aah call base o kk vs hp k=dG call base o kk vs hp k:=by
 simp only[aah,j7,m9]
theorem W8 (call:aN)(base n kk:Nat)(a d:D)(hp:List Ob)(k:KV):Mc call base n kk a d hp k=dG call base (.store n) kk [a,d] hp k:=by
 simp only[Mc,m9];exact(Xa n a d).symm
def L8 (lo hi:Bool)(x:D)(xs:List D)(k:D→R):R:=
 gW x none fun x=>qM x none fun s=>caseO (cF lo hi false (OG s) xs) none fun b=>UB (ZL s b.1) (Nat.sub b.2.1 b.1) fun r=>k (.p (.str r))
theorem W4 {call:aN}{base kk:Nat}{hp:List Ob}{k:KV}(lo hi:Bool)(x:D)(xs:List D):dG call base (.slStr lo hi) kk (x::xs) hp k=L8 lo hi x xs fun v=>k v hp:=by
 rw[cD rfl];show lE (qG lo hi (x::xs)) (fun v=>k v hp)=_;cases x<;>try rfl
 rename_i x;cases x<;>try rfl
 rename_i s;simp only[qG,L8,gW,qM,P6,ZM,ov];cases cF lo hi false s.length xs with
 |none=>rfl
 |some b=>rfl
def CH (es:List Da)(n:Nat)(ys:List Da)(e:R)(k:List Da→R):R:=
 List.rec (motive:=fun _=>Nat→(List Da→R)→R) (fun n k=>Nat.rec (motive:=fun _=>R) (k ys) (fun _ _=>e) n) (fun x _ ih n k=>Nat.rec (motive:=fun _=>R) (k ys) (fun m _=>ih m fun r=>k (x::r)) n) es n k
theorem Ek (ys:List Da)(e:R):∀(es:List Da) (n:Nat) (k:List Da→R),CH es n ys e k=bif Nat.ble n es.length then k (es.take n++ys)else e
 |[],0,k=>rfl
 |[],n+1,k=>rfl
 |x::r,0,k=>rfl
 |x::r,n+1,k=>by
  show CH r n ys e (fun r=>k (x::r))=_;rw[Ek ys e r];rfl
def Tp (o:Ob)(e:R)(k:List Da→R):R:=
 Ob.rec (motive:=fun _=>R) (fun _=>e) (fun es=>k es) (fun _=>e) (fun _ _=>e) (fun _ _=>e) e e (fun _ _=>e) o
def yK (esz:Nat)(b:D)(e:R)(k:List Da→R):R:=
 D.rec (motive_1:=fun _=>R) (motive_2:=fun _=>PUnit.{1})
  (fun x=>j4 x e fun z es=>wv (Nat.beq z esz) (k es) e) (fun _ _=>e) (fun _ _=>e) (fun _ _=>e) (fun _ _ _=>e) (fun _ _=>e) (fun _ _ _ _=>e) (fun _ z es=>wv (Nat.beq z esz) (k es) e) (fun _=>e) (fun _ _ _=>e) (fun _ _ _=>e) e ⟨⟩ (fun _ _ _ _=>⟨⟩) b
theorem ait (esz:Nat)(b:D)(os:List (Nat×Ob))(e:R)(k:List Da→R):yK esz b e k=e∨∃ys,elems esz os b=some ys∧yK esz b e k=k ys:=by
 cases b<;>try exact .inl rfl
 ·rename_i x;cases x<;>try exact .inl rfl
  all_goals
   rename_i z es;simp only[yK,j4,iB,elems,rb,Gi];cases Nat.beq z esz
   ·exact .inl rfl
   ·exact .inr ⟨es,rfl,rfl⟩
 ·rename_i g z es;simp only[yK,iB,elems,rb,Gi];cases Nat.beq z esz
  ·exact .inl rfl
  ·exact .inr ⟨es,rfl,rfl⟩
def afx (esz bytes base kk:Nat)(a b:D)(hp:List Ob)(e:R)(k:KV):R:=
 D.rec (motive_1:=fun _=>R) (motive_2:=fun _=>PUnit.{1})
  (fun _=>e) (fun _ _=>e) (fun _ _=>e) (fun _ _=>e) (fun _ _ _=>e) (fun _ _=>e)
  (fun id lo len z=>Nat.rec (motive:=fun _=>R) (wv (Nat.beq z esz) (Tp (Mm hp id) e fun es=>yK esz b e fun ys=>CH es len ys e fun zs=>
   forceN (Nat.add len (OG ys)) fun l=>wv (Nat.ble (Nat.mul (Nat.add (Nat.mul 2 l) 192) bytes) 281474976710656) (wv (Nat.ble (Nat.add (Nat.mul 2 l) 192) 9223372036854775807)
    (forceN (Nat.add base kk) fun i=>unb (Mm hp i) (Hs hp id .dead fun hp=>Hs hp i (.arr zs) fun hp=>k (.arr i 0 l esz) hp)) none) none) e) (fun _ _=>e) lo)
  (fun _ _ _=>e) (fun _=>e) (fun _ _ _=>e) (fun _ _ _=>e) e ⟨⟩ (fun _ _ _ _=>⟨⟩) a
theorem acj {call:aN}{base kk:Nat}{hp:List Ob}{k:KV}(esz bytes:Nat)(a b:D):dG call base (.app esz bytes) kk [a,b] hp k=afx esz bytes base kk a b hp (dG call base (.app esz bytes) kk [a,b] hp k) k:=by
 cases a<;>try rfl
 rename_i id lo len z;cases lo with
 |succ lo=>rfl
 |zero=>
  simp only[afx,iB];cases hz:Nat.beq z esz
  ·rfl
  ·have ho:bb hp id=Mm hp id:=(oZ hp id).symm;cases hob:Mm hp id<;>try rfl
   rename_i es;simp only[cond_true,Tp];have hn:bQ (.app esz bytes) [.arr id 0 len z,b] hp=id::(dids b++[]):=rfl;have hl:hT ((id::(dids b++[])).zip ((id::(dids b++[])).map (bb hp))) id= .arr es:=by
    simp only[List.map_cons,List.zip_cons_cons,hT,show Nat.beq id id=true from Nat.beq_refl id,cond_true,ho,hob]
   rcases ait esz b ((id::(dids b++[])).zip ((id::(dids b++[])).map (bb hp))) (dG call base (.app esz bytes) kk [.arr id 0 len z,b] hp k) (fun ys=>CH es len ys (dG call base (.app esz bytes) kk [.arr id 0 len z,b] hp k) fun zs=>
   forceN (Nat.add len (OG ys)) fun l=>bif Nat.ble (Nat.mul (Nat.add (Nat.mul 2 l) 192) bytes) 281474976710656 then bif Nat.ble (Nat.add (Nat.mul 2 l) 192) 9223372036854775807 then
    (forceN (Nat.add base kk) fun i=>unb (Mm hp i) (Hs hp id .dead fun hp=>Hs hp i (.arr zs) fun hp=>k (.arr i 0 l esz) hp))else none else none)with hy|⟨ys,hy1,hy2⟩
   ·exact hy.symm
   ·rw[hy2,Ek];cases hle:Nat.ble len es.length
    ·rfl
    ·have hle':=Nat.le_of_ble_eq_true hle;have hlen:(es.take len).length=len:=by simp[hle']
     simp only[cond_true,mu,yx,SU,oZ,ov];simp only[dG,df,Bool.not_true,Bool.false_or,qH,vC,hn,rt,hl,hz,cond_true,List.drop_zero,hy1,hlen,List.isEmpty_cons,Bool.false_and,cond_false];have e1:bb hp (base+kk)=hp.getD (Nat.add base kk) .dead:=rfl;rw[e1];have e2:(2*(len+ys.length)+192)*bytes=Nat.mul (Nat.add (Nat.mul 2 (Nat.add len ys.length)) 192) bytes:=rfl;have e3:2*(len+ys.length)+192=Nat.add (Nat.mul 2 (Nat.add len ys.length)) 192:=rfl;rw[e2,e3];cases cQ (hp.getD (Nat.add base kk) .dead)<;>cases Nat.ble (Nat.mul (Nat.add (Nat.mul 2 (Nat.add len ys.length)) 192) bytes) 281474976710656<;>cases Nat.ble (Nat.add (Nat.mul 2 (Nat.add len ys.length)) 192) 9223372036854775807<;>rfl
def acg (call:aN)(base esz bytes kk:Nat)(a b:D)(hp:List Ob)(k:KV):R:=
 afx esz bytes base kk a b hp (aah call base (.app esz bytes) kk [a,b] hp k) k
theorem ach (call:aN)(base esz bytes kk:Nat)(a b:D)(hp:List Ob)(k:KV):acg call base esz bytes kk a b hp k=dG call base (.app esz bytes) kk [a,b] hp k:=by
 unfold acg;rw[Ke];exact(acj esz bytes a b).symm
def YI (esz:Nat)(d:D)(e:R)(k:D→R):R:=gW d e fun x=>wv (Nat.beq (OG (cells x)) esz) (k (.sl .exact esz [x])) none
theorem YJ {call:aN}{base kk:Nat}{hp:List Ob}{k:KV}(esz:Nat)(z:Da)(d:D):dG call base (.bsl esz z 1 [0]) kk [d] hp k=YI esz d (dG call base (.bsl esz z 1 [0]) kk [d] hp k) fun v=>k v hp:=by
 cases d<;>try rfl
 rename_i x;simp only[YI,gW,iB,ov];have:dG call base (.bsl esz z 1 [0]) kk [.p x] hp k=match VS esz z 1 [0] [.p x] [] []with
  |none=>none
  |some (v,ups,new)=>k v (grow (aD hp ups) new):=rfl
 rw[this];simp only[VS,pur.purL,pur,List.all_cons,List.all_nil,Bool.and_true];cases Nat.beq (cells x).length esz
 ·rfl
 ·rfl
def YG (call:aN)(base esz:Nat)(z:Da)(kk:Nat)(d:D)(hp:List Ob)(k:KV):R:=YI esz d (aah call base (.bsl esz z 1 [0]) kk [d] hp k) fun v=>k v hp
theorem YH (call:aN)(base esz:Nat)(z:Da)(kk:Nat)(d:D)(hp:List Ob)(k:KV):YG call base esz z kk d hp k=dG call base (.bsl esz z 1 [0]) kk [d] hp k:=by
 unfold YG;rw[Ke];exact(YJ esz z d).symm
def sR (d:D)(k:D→R):R:=
 D.rec (motive_1:=fun _=>R) (motive_2:=fun _=>PUnit.{1})
  (fun x=>Da.rec (motive_1:=fun _=>R) (motive_2:=fun _=>PUnit.{1})
   (fun b=>Bool.rec (motive:=fun _=>R) (k (.p (.bool false))) (k (.p (.bool true))) b) (fun i n=>Kb n fun n=>k (.p (.int i n))) (fun s=>forceNs s fun s=>k (.p (.str s))) (fun cs _=>xB cs fun cs=>k (.p (.agg cs))) (fun z es _=>xB es fun es=>k (.p (.slice z es))) (k d) (fun _ _=>k d) (fun _ _ _ _=>k d) (k d) (fun _ _ _=>k d) (k d) (fun _ _ _=>k d) (k d) (fun _ _ _=>k d) (fun _ _=>k d) ⟨⟩ (fun _ _ _ _=>⟨⟩) x)
  (fun cs _=>k (.agg cs)) (fun ds _=>forceDs ds fun ds=>k (.tup ds)) (fun _ _=>iz d k) (fun _ _ _=>iz d k) (fun _ _=>k d)
  (fun _ _ _ _=>iz d k) (fun _ _ _=>k d) (fun _=>iz d k) (fun _ _ _=>k d) (fun _ _ _=>k d) (k d) ⟨⟩ (fun _ _ _ _=>⟨⟩) d
theorem Wy (d:D)(k:D→R):sR d k=k d:=by
 cases d<;>(try rfl)<;>(try (simp only[sR,j7];done))
 ·rename_i x;cases x<;>try rfl
  ·rename_i b;cases b<;>rfl
  ·simp only[sR,H1]
  ·simp only[sR,nb]
  ·simp only[sR,qP]
  ·simp only[sR,qP]
 ·simp only[sR,iA]
end
end Go.Ab
end
section
namespace Go.Ab
open Go
noncomputable section
def ta (vs:List D)(e:R)(k:List D→R):R:=
 List.rec (motive:=fun _=>(List D→R)→R) (fun k=>k [])
  (fun d _ ih k=>D.rec (motive_1:=fun _=>R) (motive_2:=fun _=>PUnit.{1})
   (fun x=>ih fun xs=>k (.p x::xs)) (fun _ _=>e) (fun _ _=>e) (fun _ _=>e) (fun _ _ _=>e) (fun _ _=>e) (fun _ _ _ _=>e) (fun _ _ _=>e) (fun _=>e) (fun _ _ _=>e) (fun _ _ _=>e) e ⟨⟩ (fun _ _ _ _=>⟨⟩) d) vs k
def Ul (r:D)(e:R)(k:D→R):R:=
 D.rec (motive_1:=fun _=>R) (motive_2:=fun _=>PUnit.{1})
  (fun x=>k (.p x)) (fun _ _=>e) (fun ds _=>ta ds e fun ds=>k (.tup ds)) (fun _ _=>e) (fun _ _ _=>e) (fun _ _=>e) (fun _ _ _ _=>e) (fun _ _ _=>e) (fun _=>e) (fun _ _ _=>e) (fun _ _ _=>e) e ⟨⟩ (fun _ _ _ _=>⟨⟩) r
def Qj:D→Bool
 | .p _=>true
 |_=>false
theorem lu (e:R):∀(vs:List D) (k:List D→R),ta vs e k=bif vs.all Qj then k vs else e
 |[],k=>rfl
 |d::r,k=>by
  cases d<;>try rfl
  rename_i x;show ta r e (fun xs=>k (.p x::xs))=_;rw[lu e r];rfl
def FB:D→Bool
 | .p _=>true
 | .tup ds=>ds.all Qj
 |_=>false
theorem FC (r:D)(e:R)(k:D→R):Ul r e k=bif FB r then k r else e:=by
 cases r<;>try rfl
 exact lu _ _ _
theorem tX:∀{vs:List D},vs.all Qj=true→dids.didsL vs=[]
 |[],_=>rfl
 |d::r,h=>by
  simp only[List.all_cons,lδ]at h;cases d<;>simp only[Qj,Bool.false_eq_true,false_and]at h;simp only[dids.didsL,dids,tX h.2,mε]
theorem Az (σ:Nat→Option Nat):∀{vs:List D},vs.all Qj=true→mapD.mapDL σ vs=vs
 |[],_=>rfl
 |d::r,h=>by
  simp only[List.all_cons,lδ]at h;cases d<;>simp only[Qj,Bool.false_eq_true,false_and]at h;simp only[mapD.mapDL,mapD,Az σ h.2]
theorem AA (σ:Nat→Option Nat){d:D}(h:FB d=true):mapD σ d=d:=by
 cases d<;>simp only[FB,Bool.false_eq_true]at h
 ·rfl
 ·simp only[mapD,Az σ h]
theorem AD:∀{vs:List D},vs.all Qj=true→vs.map norm=vs
 |[],_=>rfl
 |d::r,h=>by
  simp only[List.all_cons,lδ]at h;cases d<;>simp only[Qj,Bool.false_eq_true,false_and]at h;simp only[List.map_cons,norm,AD h.2]
def Zp (call:aN)(f:Nat)(args:List D)(e:R)(k:D→R):R:=
 caseO (call f args []) none fun ro=>Prod.rec (motive:=fun _=>R) (fun r out=>List.rec (motive:=fun _=>R) (Ul r e k) (fun _ _ _=>e) out) ro
def HN (call:aN)(f:Nat)(raw:Bool)(vs:List D)(hp:List Ob)(e:R)(k:D→R):R:=
 ta vs e fun vs=>Zp call f vs e k
theorem Bg {call:aN}{f:Nat}{vs:List D}{len:Nat}(h:vs.all Qj=true):eU call f vs [] [] len=match call f vs []with
  |none=>none
  |some (r,out)=>some (mapD (back 0 len [] out.length) r,[],out.map (cB (back 0 len [] out.length))):=by
 unfold eU;rw[Az _ h];show(match call f vs []with|none=>none|some (r,out)=>_)=_;cases call f vs []with
 |none=>rfl
 |some p=>obtain⟨r,out⟩:=p;simp[Nat.ble]
abbrev KF:=D→List Ob→eB→R
section eqs
variable {call:aN} {base kk:Nat} {hp:List Ob} {k:KV}
theorem tW (hp:List Ob)(n:Nat)(acc:List Nat):cz hp n [] acc=acc:=by cases n<;>rfl
theorem Wa {f:Nat}{raw:Bool}{vs:List D}(h:vs.all Qj=true):dG call base (.call f raw) kk vs hp k=match call f vs []with
  |none=>none
  |some (r,out)=>k (mapD (back 0 hp.length [] out.length) r) (grow hp (out.map (cB (back 0 hp.length [] out.length)))):=by
 have hn:bQ (.call f raw) vs hp=[]:=by simp only[bQ,tX h,tW]
 have ha:(bif raw then vs else vs.map norm)=vs:=by cases raw<;>simp[AD h]
 simp only[dG,df,Bool.not_false,Bool.true_or,cond_true,hn,List.map_nil,qH,ha,Bg h];cases call f vs []with
 |none=>rfl
 |some p=>rfl
theorem Zq (f:Nat)(raw:Bool)(vs:List D):dG call base (.call f raw) kk vs hp k=HN call f raw vs hp (dG call base (.call f raw) kk vs hp k) fun v=>k v hp:=by
 unfold HN;rw[lu];cases h:vs.all Qj
 ·rfl
 ·rw[cond_true,Wa h];unfold Zp;cases hc:call f vs []with
  |none=>rfl
  |some p=>
   obtain⟨r,out⟩:=p;cases out with
   |cons o out=>rfl
   |nil=>
    simp only[caseO,FC];cases hr:FB r
    ·rfl
    ·simp only[cond_true,List.length_nil,List.map_nil];rw[AA _ hr];rfl
end eqs
def HO (call:aN)(f:Nat)(raw:Bool)(vs:List D)(hp:List Ob)(k:KF):R:=
 forceNs (iy hp bA (gy vs []) []) fun ids=>
  forceDs (gA (lH ids) (Bool.rec (motive:=fun _=>List D) (vs.map norm) vs raw)) fun args=>forceHb (qZ ids hp) fun hp'=>
   caseO (call f args hp') none fun ro=>Prod.rec (motive:=fun _=>R) (fun r out=>wv (Nat.ble ids.length out.length)
    (iz (jJ (back ids.length hp.length ids out.length) r) fun v=>forceHb (rA (back ids.length hp.length ids out.length) out) fun out'=>
     forceHb (grow (aD hp (ids.zip out')) (out'.drop ids.length)) fun hp2=>k v hp2 ⟨ids,oF ids hp (ids.zip out'),!(out'.drop ids.length).isEmpty,hp.length⟩) none) ro
theorem NE {call:aN}{base kk:Nat}{hp:List Ob}{k:KF}(f:Nat)(raw:Bool)(vs:List D):HO call f raw vs hp k=bif !(df (.call f raw))||cQ (bb hp (base+kk))then
  match qH call base (.call f raw) kk vs (bQ (.call f raw) vs hp) ((bQ (.call f raw) vs hp).map (bb hp)) hp.length with
  |none=>none
  |some (v,ups,new)=>k v (grow (aD hp ups) new) ⟨bif df (.call f raw)then(base+kk)::bQ (.call f raw) vs hp else bQ (.call f raw) vs hp,oF (bQ (.call f raw) vs hp) hp ups,!new.isEmpty,hp.length⟩
 else none:=by
 have hn:bQ (.call f raw) vs hp=cz hp bA (dids.didsL vs) []:=rfl;simp only[HO,nb,iA,m8,j7,fu,gm,mε,j9,mg,nr,hU,pO,iB,df,Bool.not_false,Bool.true_or,cond_true,cond_false,qH,eU,hn];have e:(List.map (cB (idx (cz hp bA (dids.didsL vs) []))) (List.map (bb hp) (cz hp bA (dids.didsL vs) [])))=ce (cz hp bA (dids.didsL vs) []) hp:=by
  simp only[ce,List.map_map];rfl
 have e2:(bif raw then vs else List.map norm vs)=Bool.rec (motive:=fun _=>List D) (vs.map norm) vs raw:=by cases raw<;>rfl
 rw[e,e2];cases call f (mapD.mapDL (idx (cz hp bA (dids.didsL vs) [])) (Bool.rec (motive:=fun _=>List D) (vs.map norm) vs raw)) (ce (cz hp bA (dids.didsL vs) []) hp)with
 |none=>rfl
 |some p=>
  obtain⟨r,out⟩:=p;simp only[caseO];cases Nat.ble (cz hp bA (dids.didsL vs) []).length out.length<;>rfl
def Tn (call:aN)(f:Nat)(raw:Bool)(vs:List D)(hp:List Ob)(k:KV):R:=
 HN call f raw vs hp (HO call f raw vs hp fun v hp _=>k v hp) fun v=>k v hp
theorem Zn {call:aN}{base kk:Nat}{hp:List Ob}{k:KV}(f:Nat)(raw:Bool)(vs:List D):dG call base (.call f raw) kk vs hp k=Tn call f raw vs hp k:=by
 rw[Zq];unfold Tn;rw[NE (base:=base) (kk:=kk)];rfl
def iaG (esz:Nat)(x i:D)(k:D→R):R:=iaK esz x i (lE (Tb esz [x,i]) k) k
def faG (off:Nat)(x:D)(k:D→R):R:=faK off x (lE (aFa off [x]) k) k
def aaY (x:D)(k:D→R):R:=aaZ x (lE (vE [x]) k) k
def ah2 (kd:Nat)(x:D)(hp:List Ob)(k:D→R):R:=agZ kd x (lE (VT kd [x] (bQ (.len kd) [x] hp) ((bQ (.len kd) [x] hp).map (bb hp))) k) k
def aaE (x:D)(hp:List Ob)(k:D→R):R:=KR x hp (lE (iK 1 false [x] ((dids x).map (bb hp))) k) k
def aeX (o:O)(vs:List D)(hp:List Ob):eB:=⟨bQ o vs hp,[],false,hp.length⟩
def ahQ (hp:List Ob):eB:=⟨[],[],false,hp.length⟩
def WC (call:aN)(base:Nat)(o:O)(kk:Nat)(vs:List D)(hp:List Ob)(k:KV):R:=
 match o,vs with
 | .mv,[a]=>k a hp
 | .pick,[c,a,b]=>aa6 c a b fun v=>k v hp
 | .bin op,[x,y]=>acl op x y fun v=>k v hp
 | .un .not,[x]=>ag6 x fun v=>k v hp
 | .ia esz,[x,i]=>iaG esz x i fun v=>k v hp
 | .ix,[x,i]=>ixK x i fun v=>k v hp
 | .fa off,[x]=>faG off x fun v=>k v hp
 | .nilck,[x]=>aaY x fun v=>k v hp
 | .ext i,[x]=>adC i x fun v=>k v hp
 | .len kd,[x]=>ah2 kd x hp fun v=>k v hp
 | .load 1 false,[x]=>aaE x hp fun v=>k v hp
 | .call f raw,vs=>Tn call f raw vs hp k
 | .alloc zs,[]=>JO base kk zs hp k
 | .box n,[d]=>acu base n kk d hp k
 | .store n,[a,d]=>Mc call base n kk a d hp k
 | .slStr lo hi,x::xs=>L8 lo hi x xs fun v=>k v hp
 | .load n agg,[x]=>afa n agg x hp fun v=>k v hp
 | .fld off n agg,[x]=>aad off n agg x fun v=>k v hp
 | .build zs ps,vs=>JR zs ps vs fun v=>k v hp
 | .app esz bytes,[a,b]=>acg call base esz bytes kk a b hp k
 | .bsl esz z 1 [0],[d]=>YG call base esz z kk d hp k
 |o,vs=>match p6 o with
  |true=>dG call base o kk vs hp k
  |false=>aah call base o kk vs hp k
theorem aar (call:aN)(base:Nat)(o:O)(kk:Nat)(vs:List D)(hp:List Ob)(k:KV):WC call base o kk vs hp k=dG call base o kk vs hp k:=by
 unfold WC;split
 ·rfl
 ·exact(aa9 _ _ _).symm
 ·exact(acp _ _ _).symm
 ·exact(aec _).symm
 ·exact(agO _ _ _).symm
 ·exact(agU _ _).symm
 ·exact(agH _ _).symm
 ·exact(WL _).symm
 ·exact(adD _ _).symm
 ·exact(adX _ _).symm
 ·exact(WJ _).symm
 ·exact(Zn _ _ _).symm
 ·exact(VU _).symm
 ·exact(acv _ _).symm
 ·exact W8 _ _ _ _ _ _ _ _
 ·exact(W4 _ _ _ _).symm
 ·exact(aaH _ _ _).symm
 ·exact(adF _ _ _ _).symm
 ·exact(V1 _ _ _).symm
 ·exact ach _ _ _ _ _ _ _ _ _
 ·exact YH _ _ _ _ _ _ _ _
 ·split
  ·rfl
  ·exact Ke _ _ _ _ _ _ _
def Kd (call:aN)(base:Nat)(o:O)(kk:Nat)(vs:List D)(hp:List Ob)(k:KF):R:=
 bif !(df o)||cQ (bb hp (base+kk))then
  match qH call base o kk vs (bQ o vs hp) ((bQ o vs hp).map (bb hp)) hp.length with
  |none=>none
  |some (v,ups,new)=>k v (grow (aD hp ups) new) ⟨bif df o then(base+kk)::bQ o vs hp else bQ o vs hp,oF (bQ o vs hp) hp ups,!new.isEmpty,hp.length⟩
 else none
def NB (call:aN)(f:Nat)(raw:Bool)(vs:List D)(hp:List Ob)(k:KF):R:=
 HN call f raw vs hp (HO call f raw vs hp k) fun v=>k v hp (ahQ hp)
theorem Zm {call:aN}{base kk:Nat}{hp:List Ob}{k:KF}(f:Nat)(raw:Bool)(vs:List D):Kd call base (.call f raw) kk vs hp k=NB call f raw vs hp k:=by
 unfold NB HN;rw[lu,NE (base:=base) (kk:=kk)];cases h:vs.all Qj
 ·rfl
 ·have hn:bQ (.call f raw) vs hp=[]:=by simp only[bQ,tX h,tW]
  have ha:(bif raw then vs else vs.map norm)=vs:=by cases raw<;>simp[AD h]
  rw[cond_true];simp only[Kd,df,Bool.not_false,Bool.true_or,cond_true,cond_false,hn,List.map_nil,qH,ha,Bg h];unfold Zp;cases hc:call f vs []with
  |none=>rfl
  |some p=>
   obtain⟨r,out⟩:=p;cases out with
   |cons o out=>rfl
   |nil=>
    simp only[caseO,FC];cases hr:FB r
    ·rfl
    ·simp only[cond_true,List.length_nil,List.map_nil];rw[AA _ hr];rfl
def B3 (call:aN)(base:Nat)(o:O)(kk:Nat)(vs:List D)(hp:List Ob)(k:KF):R:=
 match o with
 | .call f raw=>NB call f raw vs hp k
 |o=>match p6 o with
  |true=>WC call base o kk vs hp fun v hp'=>k v hp' (aeX o vs hp)
  |false=>Kd call base o kk vs hp k
theorem adP (call:aN)(base:Nat)(o:O)(kk:Nat)(vs:List D)(hp:List Ob)(k:KF):B3 call base o kk vs hp k=Kd call base o kk vs hp k:=by
 unfold B3;split
 ·exact(Zm _ _ _).symm
 ·split
  ·rename_i hs;rw[aar,cD hs];have hq:=Bv (call:=call) (base:=base) (kk:=kk) (vs:=vs) (ids:=bQ o vs hp) (obs:=(bQ o vs hp).map (bb hp)) (len:=hp.length) hs;simp only[Kd,Bu hs,Bool.not_false,Bool.true_or,cond_true,cond_false];cases ha:qH call base o kk vs (bQ o vs hp) ((bQ o vs hp).map (bb hp)) hp.length with
   |none=>rfl
   |some e=>
    obtain⟨v,ups,new⟩:=e;have:=hq _ ha;simp only[lε]at this;obtain⟨rfl,rfl⟩:=this;rfl
  ·rfl
def Kf (d:D)(want:Bool)(t e:R):R:=
 D.rec (motive_1:=fun _=>R) (motive_2:=fun _=>PUnit.{1})
  (fun x=>xc x none (Bool.rec (motive:=fun _=>R) e t want) (Bool.rec (motive:=fun _=>R) t e want))
  (fun _ _=>none) (fun ds _=>List.rec (motive:=fun _=>R) e (fun _ _ _=>none) ds) (fun _ _=>none) (fun _ _ _=>none) (fun _ _=>none) (fun _ _ _ _=>none) (fun _ _ _=>none) (fun _=>none) (fun _ _ _=>none) (fun _ _ _=>none) none ⟨⟩ (fun _ _ _ _=>⟨⟩) d
def Kg (d:D)(want:Bool):Option Bool:=
 match d with
 | .p (.bool b)=>some (b==want)
 | .tup []=>some false
 |_=>none
theorem H3 (d:D)(want:Bool)(t e:R):Kf d want t e=match Kg d want with
  |none=>none
  |some true=>t
  |some false=>e:=by
 cases d<;>try rfl
 ·rename_i x;cases x<;>try rfl
  rename_i b;cases b<;>cases want<;>rfl
 ·rename_i ds;cases ds<;>rfl
theorem xG {x:fc}(tm:Tm)(h:x.gd=none):dK x tm=some true:=by simp[dK,h]
theorem xH {x:fc}(tm:Tm){g:Nat}{w:Bool}(h:x.gd=some (g,w)):dK x tm=Kg (get tm g) w:=by
 unfold dK;rw[h];rfl
def gG (d:D)(want:Bool)(run:KV→R)(hp:List Ob)(k:KV):R:=Kf d want (run k) (k (.tup []) hp)
def gF (d:D)(want:Bool)(run:KF→R)(hp:List Ob)(k:KF):R:=Kf d want (run k) (k (.tup []) hp ⟨[],[],false,0⟩)
def gdO (gd:Option (Nat×Bool))(tm:Tm)(run:KV→R)(hp:List Ob)(k:KV):R:=
 match gd with
 |none=>run k
 |some (g,w)=>gG (sT tm g) w run hp k
def gdF (gd:Option (Nat×Bool))(tm:Tm)(run:KF→R)(hp:List Ob)(k:KF):R:=
 match gd with
 |none=>run k
 |some (g,w)=>gF (sT tm g) w run hp k
def xX (tm:Tm)(as:List A):List D:=List.rec (motive:=fun _=>List D) [] (fun a _ ih=>evA tm a::ih) as
theorem KT (tm:Tm):∀as,xX tm as=as.map (ev tm)
 |[]=>rfl
 |a::r=>by
  show evA tm a::xX tm r=_;rw[Z6,KT tm r];rfl
def Kk (call:aN)(base:Nat)(ops:List fc):Tm→List Ob→K→R:=
 List.rec (motive:=fun _=>Tm→List Ob→K→R) (fun tm hp k=>k tm hp)
  (fun x _ ih tm hp k=>gdO x.gd tm (fun k=>WC call base x.op x.k (xX tm x.as) hp k) hp fun v hp=>ih (put x.dst v tm) hp k) ops
theorem TS (call:aN)(base:Nat):∀(ops:List fc) (tm:Tm) (hp:List Ob) (k:K),Kk call base ops tm hp k=match ot call base ops ⟨tm,hp⟩with
  |none=>none
  |some st=>k st.tm st.hp
 |[],tm,hp,k=>rfl
 |x::r,tm,hp,k=>by
  have step:∀v hp',Kk call base r (put x.dst v tm) hp' k=match ot call base r ⟨put x.dst v tm,hp'⟩with
   |none=>none
   |some st=>k st.tm st.hp:=fun v hp'=>TS call base r _ _ _
  have run:(WC call base x.op x.k (xX tm x.as) hp fun v hp=>Kk call base r (put x.dst v tm) hp k)=match (match ui call base x ⟨tm,hp⟩with
    |none=>none
    |some (st',_)=>ot call base r st')with
   |none=>none
   |some st=>k st.tm st.hp:=by
   rw[aar,KT];simp only[dG,ui,aeD,aaX];cases(!(df x.op)||cQ (bb hp (base+x.k)))
   ·rfl
   ·simp only[cond_true];cases qH call base x.op x.k (x.as.map (ev tm)) (bQ x.op (x.as.map (ev tm)) hp) ((bQ x.op (x.as.map (ev tm)) hp).map (bb hp)) hp.length with
    |none=>rfl
    |some e=>
     obtain⟨v,ups,new⟩:=e;exact step _ _
  show gdO x.gd tm (fun k=>WC call base x.op x.k (xX tm x.as) hp k) hp (fun v hp=>Kk call base r (put x.dst v tm) hp k)=_;simp only[ot,gdO];cases hg:x.gd with
  |none=>rw[xG tm hg];exact run
  |some p=>
   obtain⟨g,w⟩:=p;rw[xH tm hg];simp only[gG,H3,il];cases Kg (get tm g) w with
   |none=>rfl
   |some b=>
    cases b
    ·exact step _ _
    ·exact run
def xM (call:aN)(base:Nat)(ops:List fc):Tm→List Ob→List eB→(Tm→List Ob→List eB→R)→R:=
 List.rec (motive:=fun _=>Tm→List Ob→List eB→(Tm→List Ob→List eB→R)→R) (fun tm hp fs k=>k tm hp fs.reverse)
  (fun x _ ih tm hp fs k=>gdF x.gd tm (fun k=>B3 call base x.op x.k (xX tm x.as) hp k) hp fun v hp f=>ih (put x.dst v tm) hp (f::fs) k) ops
theorem Oh (call:aN)(base:Nat):∀(ops:List fc) (tm:Tm) (hp:List Ob) (fs:List eB) (k:Tm→List Ob→List eB→R),xM call base ops tm hp fs k=match et call base ops ⟨tm,hp⟩ fs with
  |none=>none
  |some (st,fs)=>k st.tm st.hp fs
 |[],tm,hp,fs,k=>rfl
 |x::r,tm,hp,fs,k=>by
  have step:∀v hp' f,xM call base r (put x.dst v tm) hp' (f::fs) k=match et call base r ⟨put x.dst v tm,hp'⟩ (f::fs)with
   |none=>none
   |some (st,fs)=>k st.tm st.hp fs:=fun v hp' f=>Oh call base r _ _ _ _
  have run:(B3 call base x.op x.k (xX tm x.as) hp fun v hp f=>xM call base r (put x.dst v tm) hp (f::fs) k)=match (match ui call base x ⟨tm,hp⟩with
    |none=>none
    |some (st',f)=>et call base r st' (f::fs))with
   |none=>none
   |some (st,fs)=>k st.tm st.hp fs:=by
   rw[adP,KT];simp only[Kd,ui,aeD,aaX];cases(!(df x.op)||cQ (bb hp (base+x.k)))
   ·rfl
   ·simp only[cond_true];cases qH call base x.op x.k (x.as.map (ev tm)) (bQ x.op (x.as.map (ev tm)) hp) ((bQ x.op (x.as.map (ev tm)) hp).map (bb hp)) hp.length with
    |none=>rfl
    |some e=>
     obtain⟨v,ups,new⟩:=e;exact step _ _ _
  show gdF x.gd tm (fun k=>B3 call base x.op x.k (xX tm x.as) hp k) hp (fun v hp f=>xM call base r (put x.dst v tm) hp (f::fs) k)=_;simp only[et,gdF];cases hg:x.gd with
  |none=>rw[xG tm hg];exact run
  |some p=>
   obtain⟨g,w⟩:=p;rw[xH tm hg];simp only[gF,H3,il];cases Kg (get tm g) w with
   |none=>rfl
   |some b=>
    cases b
    ·exact step _ _ _
    ·exact run
end
end Go.Ab
end
section
namespace Go.Ab
open Go
abbrev Sem:=aN→Nat→Nat→Tm→List Ob→K→(Nat→K)→K→R
noncomputable section
def Tt (d:D)(t e:R):R:=gW d none fun x=>xc x none t e
def ni (out:List Nat)(tm:Tm):Tm:=List.rec (motive:=fun _=>Tm) .nil (fun s _ ih=> .cons s (sT tm s) ih) out
theorem ET (tm:Tm):∀out,ni out tm=fx out id tm
 |[]=>rfl
 |s::r=>by
  show Tm.cons s (sT tm s) (ni r tm)=_;rw[il,ET tm r];rfl
def xF (nal:Nat)(hp:List Ob):List Ob:=Nat.rec (motive:=fun _=>List Ob) hp (fun n _=>grow hp (List.replicate (n+1) .unborn)) nal
theorem Oc (nal:Nat)(hp:List Ob):xF nal hp=grow hp (List.replicate nal .unborn):=by cases nal<;>rfl
def Kc (d:D)(e:R)(k:D→R):R:=
 D.rec (motive_1:=fun _=>R) (motive_2:=fun _=>PUnit.{1})
  (fun x=>t6 x fun x=>k (.p x)) (fun _ _=>e) (fun _ _=>e) (fun _ _=>e) (fun _ _ _=>e) (fun x off=>k (.ip x off))
  (fun _ _ _ _=>e) (fun g z es=>k (.sl g z es)) (fun _=>e) (fun _ _ _=>e) (fun _ _ _=>e) (k .junk) ⟨⟩ (fun _ _ _ _=>⟨⟩) d
def ng:D→Bool
 | .p _=>true
 | .ip _ _=>true
 | .sl _ _ _=>true
 | .junk=>true
 |_=>false
theorem Wx (d:D)(e:R)(k:D→R):Kc d e k=bif ng d then k d else e:=by
 cases d<;>try rfl
 simp only[Kc,vQ,ng,cond_true]
def Ly (live:List Nat)(tm:Tm)(e:R)(k:Tm→R):R:=
 List.rec (motive:=fun _=>(Tm→R)→R) (fun k=>k .nil) (fun s _ ih k=>Kc (sT tm s) e fun d=>ih fun r=>k (.cons s d r)) live k
theorem Iw (tm:Tm)(e:R):∀(live:List Nat) (k:Tm→R),Ly live tm e k=bif live.all (fun s=>ng (get tm s))then k (fx live id tm)else e
 |[],k=>rfl
 |s::r,k=>by
  show Kc (sT tm s) e (fun d=>Ly r tm e fun r=>k (.cons s d r))=_;rw[Wx,Iw tm e r,il];simp only[List.all_cons,fx,id];cases ng (get tm s)<;>rfl
def ghK (m:Nat)(g:Gh)(tm:Tm)(hp:List Ob)(k:K):R:=caseO (nz m g ⟨tm,hp⟩) none fun st=>forceTm st.tm fun tm=>forceHb st.hp fun hp=>k tm hp
theorem agK (m:Nat)(g:Gh)(tm:Tm)(hp:List Ob)(k:K):ghK m g tm hp k=caseO (nz m g ⟨tm,hp⟩) none fun st=>k st.tm st.hp:=by
 unfold ghK;congr 1;funext st;rw[vR,m8]
def KQ (live:List Nat)(tm:Tm)(ws:List Nat):List Nat:=List.rec (motive:=fun _=>List Nat) ws (fun s _ ih=>HT (sT tm s) ih) live
theorem E9 (tm:Tm)(ws:List Nat):∀live,KQ live tm ws=dids.didsL (live.map (get tm))++ws
 |[]=>rfl
 |s::r=>by
  show HT (sT tm s) (KQ r tm ws)=_;rw[xk,E9 tm ws r,il];simp only[List.map_cons,dids.didsL,mμ]
def Kl (f:D→D)(live:List Nat)(tm:Tm):Tm:=List.rec (motive:=fun _=>Tm) .nil (fun s _ ih=> .cons s (f (sT tm s)) ih) live
theorem EW (f:D→D)(tm:Tm):∀live,Kl f live tm=fx live f tm
 |[]=>rfl
 |s::r=>by
  show Tm.cons s (f (sT tm s)) (Kl f r tm)=_;rw[il,EW f tm r];rfl
def H5 (m:Nat)(live:List Nat)(tm:Tm)(hp:List Ob)(k:K):R:=
 forceNs (iy hp bA (KQ live tm (kA m hp)) (List.range m)) fun ids=>
  forceTm (Kl (jJ (lH ids)) live tm) fun tm=>forceHb (qZ ids hp) fun hp=>k tm hp
theorem EV (m:Nat)(live:List Nat)(tm:Tm)(hp:List Ob)(k:K):H5 m live tm hp k=caseO (nz m (.keep live) ⟨tm,hp⟩) none fun st=>k st.tm st.hp:=by
 simp only[H5,nb,vR,m8,fu,E9,ka,EW,nr,mg,nz,caseO];have:∀ids,jJ (idx ids)=mapD (idx ids):=fun ids=>funext fun d=>hU _ d
 simp only[this]
def aau (m:Nat)(live:List Nat)(tm:Tm)(hp:List Ob)(k:K):R:=
 List.rec (motive:=fun _=>R) (Nat.rec (motive:=fun _=>R) (Ly live tm (H5 m live tm hp k) fun tm=>k tm []) (fun _ _=>H5 m live tm hp k) m) (fun _ _ _=>H5 m live tm hp k) hp
theorem OO (σ:Nat→Option Nat){d:D}(h:ng d=true):mapD σ d=d:=by
 cases d<;>simp_all [ng,mapD]
theorem NO {d:D}(h:ng d=true):dids d=[]:=by
 cases d<;>simp_all [ng,dids]
theorem xl:∀{ds:List D},ds.all ng=true→dids.didsL ds=[]
 |[],_=>rfl
 |d::r,h=>by
  simp only[List.all_cons,lδ]at h;simp only[dids.didsL,NO h.1,xl h.2,mε]
theorem uK (σ:Nat→Option Nat)(tm:Tm):∀{live:List Nat},live.all (fun s=>ng (get tm s))=true→fx live (mapD σ) tm=fx live id tm
 |[],_=>rfl
 |s::r,h=>by
  simp only[List.all_cons,lδ]at h;simp only[fx,OO σ h.1,uK σ tm h.2,id]
theorem aav (m:Nat)(live:List Nat)(tm:Tm)(hp:List Ob)(k:K):aau m live tm hp k=caseO (nz m (.keep live) ⟨tm,hp⟩) none fun st=>k st.tm st.hp:=by
 cases hp with
 |cons o r=>exact EV _ _ _ _ _
 |nil=>
  cases m with
  |succ m=>exact EV _ _ _ _ _
  |zero=>
   show Ly live tm (H5 0 live tm [] k) (fun tm=>k tm [])=_;rw[Iw,EV];cases h:live.all (fun s=>ng (get tm s))
   ·rfl
   ·have hd:dids.didsL (live.map (get tm))=[]:=xl (by rw[List.all_map];exact h);simp only[cond_true,nz,hd,List.take_nil,List.flatMap_nil,mε,tW,caseO];rw[uK _ tm h];rfl
def Ic (m:Nat)(live:List Nat)(body:Tm→List Ob→K→R)(fuel:Nat)(tm:Tm)(hp:List Ob):R:=
 Nat.rec (motive:=fun _=>Tm→List Ob→R) (fun _ _=>none) (fun _ ih tm hp=>aau m live tm hp fun tm hp=>body tm hp ih) fuel tm hp
def aff:Sem:=fun _ _ _ tm hp kn _ _=>kn tm hp
def aic:Sem:=fun _ _ _ tm hp _ _ kr=>kr tm hp
def aeV (id:Nat):Sem:=fun _ _ _ tm hp _ ke _=>ke id tm hp
def ai1 (a b:Sem):Sem:=fun c n m tm hp kn ke kr=>a c n m tm hp (fun tm hp=>b c n m tm hp kn ke kr) ke kr
def ahF (x:A)(t e:Sem):Sem:=fun c n m tm hp kn ke kr=>Tt (evA tm x) (t c n m tm hp kn ke kr) (e c n m tm hp kn ke kr)
def afF (id:Nat)(b:Sem):Sem:=fun c n m tm hp kn ke kr=>b c n m tm hp kn (fun i tm hp=>wv (Nat.beq i id) (kn tm hp) (ke i tm hp)) kr
def ah4 (live:List Nat)(b:Sem):Sem:=fun c n m tm hp _ ke kr=>Ic m live (fun tm hp k=>b c n m tm hp k ke kr) n tm hp
def ghS (g:Gh)(b:Sem):Sem:=fun c n m tm hp kn ke kr=>ghK m g tm hp fun tm hp=>b c n m tm hp kn ke kr
def aiZ (nal:Nat)(f:aN→Nat→Tm→List Ob→K→R):Sem:=fun c _ _ tm hp kn _ _=>f c hp.length tm (xF nal hp) kn
def aiY (nal:Nat)(ps:List (Nat×Nat))(f:aN→Nat→Tm→List Ob→(Tm→List Ob→List eB→R)→R):Sem:=fun c _ _ tm hp kn _ _=>f c hp.length tm (xF nal hp) fun tm hp fs=>wv (fX fs ps) (kn tm hp) none
def aib (nal:Nat)(ops:List fc)(prs:Option (List (Nat×Nat)))(out:List Nat):Sem:=
 match prs with
 |none=>aiZ nal fun call base tm hp k=>Kk call base ops tm hp fun tm hp=>k (ni out tm) hp
 |some ps=>aiY nal ps fun call base tm hp k=>xM call base ops tm hp [] fun tm hp fs=>k (ni out tm) hp fs
def Wk (c:Co):Sem:=
 Co.rec (motive:=fun _=>Sem) aff (fun nal ops prs out=>aib nal ops prs out) (fun _ _ a b=>ai1 a b) (fun c _ _ t e=>ahF c t e) (fun id _ b=>afF id b) (fun live _ b=>ah4 live b) (fun id=>aeV id) aic (fun g _ c=>ghS g c) c
def G9 (r:Option (Ex×St))(kn:K)(ke:Nat→K)(kr:K):R:=
 match r with
 |none=>none
 |some (.norm,st)=>kn st.tm st.hp
 |some (.exit i,st)=>ke i st.tm st.hp
 |some (.ret,st)=>kr st.tm st.hp
theorem OL {m:Nat}{live:List Nat}{body:St→Option (Ex×St)}{bodyK:Tm→List Ob→K→(Nat→K)→K→R}{ke:Nat→K}{kr kn:K}(hb:∀tm hp kn,bodyK tm hp kn ke kr=G9 (body ⟨tm,hp⟩) kn ke kr):∀(fuel:Nat) (tm:Tm) (hp:List Ob),Ic m live (fun tm hp k=>bodyK tm hp k ke kr) fuel tm hp=G9 (Am m body live fuel ⟨tm,hp⟩) kn ke kr
 |0,tm,hp=>rfl
 |n+1,tm,hp=>by
  show aau m live tm hp (fun tm hp=>bodyK tm hp (Ic m live (fun tm hp k=>bodyK tm hp k ke kr) n) ke kr)=_;rw[aav];simp only[Am];cases nz m (.keep live) ⟨tm,hp⟩with
  |none=>rfl
  |some st=>
   show bodyK st.tm st.hp (Ic m live (fun tm hp k=>bodyK tm hp k ke kr) n) ke kr=_;rw[hb];show G9 (body st) _ ke kr=G9 (match body st with
    |some (.norm,st')=>Am m body live n st'
    |r=>r) kn ke kr
   cases body st with
   |none=>rfl
   |some p=>
    obtain⟨ex,st'⟩:=p;cases ex with
    |norm=>exact OL hb n _ _
    |exit i=>rfl
    |ret=>rfl
theorem sM (call:aN)(fuel m:Nat):∀(c:Co) (tm:Tm) (hp:List Ob) (kn:K) (ke:Nat→K) (kr:K),Wk c call fuel m tm hp kn ke kr=G9 (cP call fuel m c ⟨tm,hp⟩) kn ke kr
 | .skip,tm,hp,kn,ke,kr=>rfl
 | .ret,tm,hp,kn,ke,kr=>rfl
 | .exit i,tm,hp,kn,ke,kr=>rfl
 | .reg nal ops none out,tm,hp,kn,ke,kr=>by
  show Kk call hp.length ops tm (xF nal hp) (fun tm hp=>kn (ni out tm) hp)=_;rw[TS,Oc];simp only[cP,Bh];cases ot call hp.length ops ⟨tm,grow hp (List.replicate nal .unborn)⟩with
  |none=>rfl
  |some st=>simp only[G9,ET]
 | .reg nal ops (some ps) out,tm,hp,kn,ke,kr=>by
  show xM call hp.length ops tm (xF nal hp) [] (fun tm hp fs=>wv (fX fs ps) (kn (ni out tm) hp) none)=_;rw[Oh,Oc];simp only[cP,Bh];cases et call hp.length ops ⟨tm,grow hp (List.replicate nal .unborn)⟩ []with
  |none=>rfl
  |some p=>
   obtain⟨st,fs⟩:=p;simp only[iB];cases fX fs ps
   ·rfl
   ·simp only[G9,cond_true,ET]
 | .seq a b,tm,hp,kn,ke,kr=>by
  show Wk a call fuel m tm hp (fun tm hp=>Wk b call fuel m tm hp kn ke kr) ke kr=_;rw[sM call fuel m a];simp only[cP];cases cP call fuel m a ⟨tm,hp⟩with
  |none=>rfl
  |some p=>
   obtain⟨ex,st⟩:=p;cases ex with
   |norm=>exact sM call fuel m b _ _ _ _ _
   |exit i=>rfl
   |ret=>rfl
 | .cond c t e,tm,hp,kn,ke,kr=>by
  show Tt (evA tm c) (Wk t call fuel m tm hp kn ke kr) (Wk e call fuel m tm hp kn ke kr)=_;rw[sM call fuel m t,sM call fuel m e,Z6];simp only[cP];cases ev tm c<;>try rfl
  rename_i x;cases x<;>try rfl
  rename_i b;cases b<;>rfl
 | .block id b,tm,hp,kn,ke,kr=>by
  show Wk b call fuel m tm hp kn (fun i tm hp=>wv (Nat.beq i id) (kn tm hp) (ke i tm hp)) kr=_;rw[sM call fuel m b];simp only[cP];cases cP call fuel m b ⟨tm,hp⟩with
  |none=>rfl
  |some p=>
   obtain⟨ex,st⟩:=p;cases ex with
   |norm=>rfl
   |ret=>rfl
   |exit i=>
    simp only[G9,iB];cases Nat.beq i id<;>rfl
 | .loop live b,tm,hp,kn,ke,kr=>OL (fun tm hp kn=>sM call fuel m b tm hp kn ke kr) fuel tm hp
 | .gh g c,tm,hp,kn,ke,kr=>by
  show ghK m g tm hp (fun tm hp=>Wk c call fuel m tm hp kn ke kr)=_;rw[agK];simp only[cP];cases nz m g ⟨tm,hp⟩with
  |none=>rfl
  |some st=>exact sM call fuel m c _ _ _ _ _
theorem H2 (hp:List Ob):∀{ds:List D},ds.all Qj=true→uj hp ds=(ds,hp)
 |[],_=>rfl
 |d::r,h=>by
  simp only[List.all_cons,lδ]at h;cases d<;>simp only[Qj,Bool.false_eq_true,false_and]at h;have e:uj hp r=(r,hp):=H2 hp h.2;simp only[uj,dids,List.map_nil,pur,dN,aD,e]
def RF (m:Nat)(ds:List D)(hp:List Ob):R:=
 forceNs (iy hp bA (gy ds (kA m hp)) (List.range m)) fun ids=>sR (jJ (lH ids) (one ds)) fun r=>forceHb (qZ ids hp) fun out=>some (r,out)
def Wv (m:Nat)(fz:Bool)(ds:List D)(hp:List Ob):R:=
 ta ds (Bool.rec (motive:=fun _=>R) (RF m ds hp) (Prod.rec (motive:=fun _=>R) (fun ds hp=>RF m ds hp) (uj hp ds)) fz)
  fun ds=>Nat.rec (motive:=fun _=>R) (some (one ds,[])) (fun _ _=>RF m ds hp) m
theorem J9 (m:Nat)(ds:List D)(hp:List Ob):RF m ds hp=some (mapD (idx (cz hp bA (dids.didsL ds++(hp.take m).flatMap lN) (List.range m))) (one ds),ce (cz hp bA (dids.didsL ds++(hp.take m).flatMap lN) (List.range m)) hp):=by
 simp only[RF,nb,Wy,m8,fu,gm,ka,hU,mg,nr]
theorem CN (m:Nat)(fz:Bool)(ds:List D)(hp:List Ob):Wv m fz ds hp=some (fin m fz ds hp):=by
 unfold Wv;rw[lu];cases h:ds.all Qj
 ·cases fz with
  |false=>exact J9 m ds hp
  |true=>
   show Prod.rec (motive:=fun _=>R) (fun ds hp=>RF m ds hp) (uj hp ds)=_;simp only[fin,cond_true];cases uj hp ds;exact J9 _ _ _
 ·have e:(bif fz then uj hp ds else(ds,hp))=(ds,hp):=by cases fz<;>simp[H2 hp h]
  cases m with
  |succ m=>
   show RF (m+1) ds hp=_;rw[J9];simp only[fin,e]
  |zero=>
   have hp1:FB (one ds)=true:=by
    unfold one;split
    ·rename_i d;simp only[List.all_cons,lδ]at h;cases d<;>simp_all [Qj,FB]
    ·exact h
   simp only[cond_true,fin,e,tX h,List.take_zero,List.flatMap_nil,mε,tW,List.range_zero];rw[AA _ hp1];rfl
def rvK (tm:Tm)(hp:List Ob)(r:Rv)(k:D→R):R:=
 Rv.rec (motive:=fun _=>R) (fun n=>k (sT tm n)) (fun a n agg=>D.rec (motive_1:=fun _=>R) (motive_2:=fun _=>PUnit.{1})
  (fun _=>none) (fun _ _=>none) (fun _ _=>none) (fun id off=>oo (Mm hp id) none fun cs=>SO cs off n fun ds=>wd agg ds k) (fun _ _ _=>none) (fun _ _=>none) (fun _ _ _ _=>none) (fun _ _ _=>none) (fun _=>none) (fun _ _ _=>none) (fun _ _ _=>none) none ⟨⟩ (fun _ _ _ _=>⟨⟩) (sT tm a)) r
theorem aho (tm:Tm)(hp:List Ob)(r:Rv)(k:D→R):rvK tm hp r k=caseO (N1 ⟨tm,hp⟩ r) none k:=by
 cases r with
 |t n=>simp only[rvK,N1,il,caseO]
 |cell a n agg=>
  simp only[rvK,N1,il,oZ,yB,pU];cases get tm a<;>try rfl
  rename_i id off;have:bb hp id=hp.getD id .dead:=rfl;simp only[this];cases hp.getD id .dead<;>try rfl
  rename_i cs;simp only[oo];cases sub cs off n<;>rfl
def WZ (tm:Tm)(hp:List Ob)(rs:List Rv)(k:List D→R):R:=
 List.rec (motive:=fun _=>(List D→R)→R) (fun k=>k []) (fun r _ ih k=>rvK tm hp r fun d=>ih fun ds=>k (d::ds)) rs k
theorem C6 (tm:Tm)(hp:List Ob):∀(rs:List Rv) (k:List D→R),WZ tm hp rs k=caseO (m7 ⟨tm,hp⟩ rs) none k
 |[],k=>rfl
 |r::rs,k=>by
  show rvK tm hp r (fun d=>WZ tm hp rs fun ds=>k (d::ds))=_;rw[aho];simp only[C6 tm hp rs,m7];cases N1 ⟨tm,hp⟩ r with
  |none=>rfl
  |some d=>
   simp only[caseO];cases m7 ⟨tm,hp⟩ rs<;>rfl
def Hq (b:Sem)(call:aN)(n:Nat)(res:List Rv)(fz:Bool)(args:List D)(hp:List Ob):R:=
 b call n hp.length (fm args 0) hp (fun tm hp'=>WZ tm hp' res fun ds=>Wv hp.length fz ds hp') (fun _ _ _=>none) (fun tm hp'=>WZ tm hp' res fun ds=>Wv hp.length fz ds hp')
theorem C4 (call:aN)(fuel:Nat)(x:Fx)(args:List D)(hp:List Ob):Hq (Wk x.body) call fuel x.res x.fz args hp=fo call fuel x args hp:=by
 unfold Hq fo tj;simp only[C6];rw[sM];cases cP call fuel hp.length x.body ⟨fm args 0,hp⟩with
 |none=>rfl
 |some p=>
  obtain⟨ex,st⟩:=p;cases ex with
  |norm=>
   simp only[G9,CN];cases m7 st x.res<;>rfl
  |ret=>
   simp only[G9,CN];cases m7 st x.res<;>rfl
  |exit i=>rfl
inductive Hn where
 |code (b:Sem) (res:List Rv) (fz:Bool)
 |prim (g:List Da→Option (D×List Ob))
 |both (g:List Da→Option (D×List Ob)) (b:Sem) (res:List Rv) (fz:Bool)
 |any (g:List D→List Ob→Option (D×List Ob))
def hn (tab:Option Hn)(ih:aN)(n:Nat)(args:List D)(hp:List Ob):R:=
 Option.rec (motive:=fun _=>R) none (fun h=>Hn.rec (motive:=fun _=>R) (fun b res fz=>Hq b ih n res fz args hp) (fun g=>match jQ args with
   |some xs=>match hp with
    |[]=>g xs
    |_=>none
   |none=>none) (fun g b res fz=>match jQ args with
   |some xs=>match hp with
    |[]=>g xs
    |_=>Hq b ih n res fz args hp
   |none=>Hq b ih n res fz args hp) (fun g=>g args hp) h) tab
def TF (tab:Nat→Option Hn)(n:Nat):aN:=
 Nat.rec (motive:=fun _=>aN) (fun _ _ _=>none) (fun n ih f args hp=>hn (tab f) ih n args hp) n
def same (a:Option Hn)(b:Option Fn):Prop:=
 match a,b with
 |none,none=>True
 |some (.code g res fz),some (.code x)=>Wk x.body=g∧x.res=res∧x.fz=fz
 |some (.prim g),some (.prim h)=>g=h
 |some (.both g b res fz),some (.both h x)=>g=h∧Wk x.body=b∧x.res=res∧x.fz=fz
 |some (.any g),some (.any h)=>g=h
 |_,_=>False
theorem Z8 {tabH:Nat→Option Hn}{tab:Nat→Option Fn}(h:∀f,same (tabH f) (tab f)):∀n,TF tabH n=evFn tab n
 |0=>by funext f args hp;rfl
 |n+1=>by
  funext f args hp
  show hn (tabH f) (TF tabH n) n args hp=_;rw[Z8 h n];have hf:=h f;simp only[evFn,agV];cases h1:tabH f with
  |none=>
   rw[h1]at hf;cases h2:tab f with
   |none=>rfl
   |some x=>rw[h2]at hf;cases x<;>exact hf.elim
  |some a=>
   rw[h1]at hf;cases h2:tab f with
   |none=>rw[h2]at hf;cases a<;>exact hf.elim
   |some x=>
    rw[h2]at hf;cases a with
    |code g res fz=>
     cases x with
     |code x=>
      obtain⟨h3,rfl,rfl⟩:=hf;show Hq g (evFn tab n) n x.res x.fz args hp=_;rw[←h3,C4]
     |prim q=>exact hf.elim
     |both q x=>exact hf.elim
     |any q=>exact hf.elim
    |prim g=>
     cases x with
     |code x=>exact hf.elim
     |prim q=>obtain rfl:g=q:=hf;rfl
     |both q x=>exact hf.elim
     |any q=>exact hf.elim
    |both g b res fz=>
     cases x with
     |code x=>exact hf.elim
     |prim q=>exact hf.elim
     |both q x=>
      obtain⟨rfl,h3,rfl,rfl⟩:=hf;show(match jQ args with
       |some xs=>match hp with
        |[]=>g xs
        |_=>Hq b (evFn tab n) n x.res x.fz args hp
       |none=>Hq b (evFn tab n) n x.res x.fz args hp)=_
      rw[←h3,C4];rfl
     |any q=>exact hf.elim
    |any g=>
     cases x with
     |code x=>exact hf.elim
     |prim q=>exact hf.elim
     |both q x=>exact hf.elim
     |any q=>obtain rfl:g=q:=hf;rfl
def ahT (b:Bool)(x y:Option Hn):Option Hn:=Bool.rec (motive:=fun _=>Option Hn) y x b
theorem W0 {b:Bool}{x y:Option Hn}{x' y':Option Fn}(h:same x x')(k:same y y'):same (ahT b x y) (bif b then x' else y'):=by
 cases b
 ·exact k
 ·exact h
end
end Go.Ab
end
section
namespace Go.Ab
open Go
noncomputable section
def vG (a b:Bool):Bool:=Bool.rec (motive:=fun _=>Bool) false b a
theorem w9 (a b:Bool):vG a b=(a&&b):=by cases a<;>rfl
def ais (y:Da)(k:IntKind→Int→Bool):Bool:=
 Da.rec (motive_1:=fun _=>Bool) (motive_2:=fun _=>PUnit.{1}) (fun _=>false) (fun i n=>k i n) (fun _=>false) (fun _ _=>false) (fun _ _ _=>false) false (fun _ _=>false) (fun _ _ _ _=>false) false (fun _ _ _=>false) false (fun _ _ _=>false) false (fun _ _ _=>false) (fun _ _=>false) ⟨⟩ (fun _ _ _ _=>⟨⟩) y
def aiu (y:Da)(k:List Nat→Bool):Bool:=
 Da.rec (motive_1:=fun _=>Bool) (motive_2:=fun _=>PUnit.{1}) (fun _=>false) (fun _ _=>false) (fun s=>k s) (fun _ _=>false) (fun _ _ _=>false) false (fun _ _=>false) (fun _ _ _ _=>false) false (fun _ _ _=>false) false (fun _ _ _=>false) false (fun _ _ _=>false) (fun _ _=>false) ⟨⟩ (fun _ _ _ _=>⟨⟩) y
def air (y:Da)(k:List Da→Bool):Bool:=
 Da.rec (motive_1:=fun _=>Bool) (motive_2:=fun _=>PUnit.{1}) (fun _=>false) (fun _ _=>false) (fun _=>false) (fun cs _=>k cs) (fun _ _ _=>false) false (fun _ _=>false) (fun _ _ _ _=>false) false (fun _ _ _=>false) false (fun _ _ _=>false) false (fun _ _ _=>false) (fun _ _=>false) ⟨⟩ (fun _ _ _ _=>⟨⟩) y
def abz (y:Da)(k:Nat→List Da→Bool):Bool:=
 Da.rec (motive_1:=fun _=>Bool) (motive_2:=fun _=>PUnit.{1}) (fun _=>false) (fun _ _=>false) (fun _=>false) (fun _ _=>false) (fun z es _=>k z es) false (fun _ _=>false) (fun _ _ _ _=>false) false (fun _ _ _=>false) false (fun _ _ _=>false) false (fun _ _ _=>false) (fun _ _=>false) ⟨⟩ (fun _ _ _ _=>⟨⟩) y
def UM (y:Da)(k:Nat→List Da→Bool):Bool:=
 Da.rec (motive_1:=fun _=>Bool) (motive_2:=fun _=>PUnit.{1}) (fun _=>false) (fun _ _=>false) (fun _=>false) (fun _ _=>false) (fun _ _ _=>false) false (fun _ _=>false) (fun _ _ _ _=>false) false (fun _ _ _=>false) false (fun _ _ _=>false) false (fun z es _=>k z es) (fun _ _=>false) ⟨⟩ (fun _ _ _ _=>⟨⟩) y
def Z2 (m n:Int):Bool:=Int.rec (motive:=fun _=>Bool) (fun a=>Int.rec (motive:=fun _=>Bool) (fun b=>Nat.beq a b) (fun _=>false) n) (fun a=>Int.rec (motive:=fun _=>Bool) (fun _=>false) (fun b=>Nat.beq a b) n) m
theorem adw {m n:Int}(h:Z2 m n=true):m=n:=by
 cases m<;>cases n<;>simp only[Z2,Bool.false_eq_true]at h
 ·rw[lθ h]
 ·rw[lθ h]
theorem NX:∀{a b:List Nat},aO a b=true→a=b
 |[],[],_=>rfl
 |[],_::_,h=>by simp[aO]at h
 |_::_,[],h=>by simp[aO]at h
 |x::a,y::b,h=>by
  simp only[aO]at h;cases hx:Nat.beq x y
  ·simp[hx]at h
  ·simp only[hx,cond_true]at h;rw[lθ hx,NX h]
def adv (x:Da):Da→Bool:=
 Da.rec (motive_1:=fun _=>Da→Bool) (motive_2:=fun _=>List Da→Bool)
  (fun _ _=>false) (fun i n y=>ais y fun j m=>vG (Nat.beq (kc i) (kc j)) (Z2 n m)) (fun s y=>aiu y fun t=>RE s t) (fun _ ih y=>air y ih) (fun z _ ih y=>abz y fun z' es'=>vG (Nat.beq z z') (ih es'))
  (fun _=>false) (fun _ _ _=>false) (fun _ _ _ _ _=>false) (fun _=>false) (fun _ _ _ _=>false) (fun _=>false) (fun _ _ _ _=>false) (fun _=>false) (fun z _ ih y=>UM y fun z' es'=>vG (Nat.beq z z') (ih es')) (fun _ _ _=>false)
  (fun ys=>List.rec (motive:=fun _=>Bool) true (fun _ _ _=>false) ys) (fun _ _ ihd ihr ys=>List.rec (motive:=fun _=>Bool) false (fun y ys _=>vG (ihd y) (ihr ys)) ys) x
def NV (xs:List Da):List Da→Bool:=
 List.rec (motive:=fun _=>List Da→Bool) (fun ys=>List.rec (motive:=fun _=>Bool) true (fun _ _ _=>false) ys) (fun x _ ih ys=>List.rec (motive:=fun _=>Bool) false (fun y ys _=>vG (adv x y) (ih ys)) ys) xs
mutual
theorem TC:∀(x y:Da),adv x y=true→x=y
 | .bool _,y,h=>absurd (show false=true from h) Bool.false_ne_true
 | .int i n,y,h=>by
  cases y<;>try exact absurd (show false=true from h) Bool.false_ne_true
  rename_i j m;have h':vG (Nat.beq (kc i) (kc j)) (Z2 n m)=true:=h;rw[w9,aas,lδ,lη]at h';rw[h'.1,adw h'.2]
 | .str s,y,h=>by
  cases y<;>try exact absurd (show false=true from h) Bool.false_ne_true
  rename_i t;have h':RE s t=true:=h;rw[J3]at h';rw[NX h']
 | .agg cs,y,h=>by
  cases y<;>try exact absurd (show false=true from h) Bool.false_ne_true
  rename_i cs';rw[CL cs cs' h]
 | .slice z es,y,h=>by
  cases y<;>try exact absurd (show false=true from h) Bool.false_ne_true
  rename_i z' es';have h':vG (Nat.beq z z') _=true:=h;rw[w9,lδ]at h';rw[lθ h'.1,CL es es' h'.2]
 | .nilptr,y,h=>absurd (show false=true from h) Bool.false_ne_true
 | .ptr _,y,h=>absurd (show false=true from h) Bool.false_ne_true
 | .map _ _,y,h=>absurd (show false=true from h) Bool.false_ne_true
 | .nilmap,y,h=>absurd (show false=true from h) Bool.false_ne_true
 | .fn _ _,y,h=>absurd (show false=true from h) Bool.false_ne_true
 | .nilfn,y,h=>absurd (show false=true from h) Bool.false_ne_true
 | .iface _ _,y,h=>absurd (show false=true from h) Bool.false_ne_true
 | .nilif,y,h=>absurd (show false=true from h) Bool.false_ne_true
 | .sliceE z es,y,h=>by
  cases y<;>try exact absurd (show false=true from h) Bool.false_ne_true
  rename_i z' es';have h':vG (Nat.beq z z') _=true:=h;rw[w9,lδ]at h';rw[lθ h'.1,CL es es' h'.2]
 | .sym _ _,y,h=>absurd (show false=true from h) Bool.false_ne_true
theorem CL:∀(xs ys:List Da),Da.rec_1 (motive_1:=fun _=>Da→Bool) (motive_2:=fun _=>List Da→Bool)
  (fun _ _=>false) (fun i n y=>ais y fun j m=>vG (Nat.beq (kc i) (kc j)) (Z2 n m)) (fun s y=>aiu y fun t=>RE s t) (fun _ ih y=>air y ih) (fun z _ ih y=>abz y fun z' es'=>vG (Nat.beq z z') (ih es'))
  (fun _=>false) (fun _ _ _=>false) (fun _ _ _ _ _=>false) (fun _=>false) (fun _ _ _ _=>false) (fun _=>false) (fun _ _ _ _=>false) (fun _=>false) (fun z _ ih y=>UM y fun z' es'=>vG (Nat.beq z z') (ih es')) (fun _ _ _=>false)
  (fun ys=>List.rec (motive:=fun _=>Bool) true (fun _ _ _=>false) ys) (fun _ _ ihd ihr ys=>List.rec (motive:=fun _=>Bool) false (fun y ys _=>vG (ihd y) (ihr ys)) ys) xs ys=true→xs=ys
 |[],[],_=>rfl
 |[],_::_,h=>by cases h
 |_::_,[],h=>by cases h
 |x::xs,y::ys,h=>by
  have h':vG (adv x y) _=true:=h;rw[w9,lδ]at h';rw[TC x y h'.1,CL xs ys h'.2]
end
theorem NW:∀{xs ys:List Da},NV xs ys=true→xs=ys
 |[],[],_=>rfl
 |[],_::_,h=>by cases h
 |_::_,[],h=>by cases h
 |x::xs,y::ys,h=>by
  have h':vG (adv x y) (NV xs ys)=true:=h;rw[w9,lδ]at h';rw[TC x y h'.1,NW h'.2]
def memo (l:List (List Da×R))(xs:List Da):R:=
 List.rec (motive:=fun _=>R) none (fun p _ ih=>Bool.rec (motive:=fun _=>R) ih p.2 (NV p.1 xs)) l
theorem OP:∀{l:List (List Da×R)} {xs:List Da} {ro:D×List Ob},memo l xs=some ro→∃p∈l,p.1=xs∧p.2=some ro
 |[],xs,ro,h=>by cases h
 |p::l,xs,ro,h=>by
  have h':Bool.rec (motive:=fun _=>R) (memo l xs) p.2 (NV p.1 xs)=some ro:=h;cases he:NV p.1 xs
  ·rw[he]at h';obtain⟨q,h1,h2⟩:=OP (l:=l) h';exact⟨q,lψ _ h1,h2⟩
  ·rw[he]at h';exact⟨p,lυ ..,NW he,h'⟩
variable [Letters]
def T4 (l:List (List Da×R))(call:aN)(f:Nat)(xs:List Da):R:=
 Option.rec (motive:=fun _=>R) (call f (xs.map .p) []) (fun r=>some r) (memo l xs)
theorem R7 {P:Program}{G:ci}{call:aN}(hc:eL P G call){f:Nat}{l:List (List Da×R)}(h:∀p∈l,p.2=none∨call f (p.1.map .p) []=p.2):iq P G f (T4 l call f):=by
 intro xs r out hm;have hcall:call f (xs.map .p) []=some (r,out):=by
  unfold T4 at hm;cases hq:memo l xs with
  |none=>rw[hq]at hm;exact hm
  |some ro=>
   rw[hq]at hm;obtain⟨p,hp,hx,hr⟩:=OP hq;rcases h p hp with h1|h1
   ·rw[h1]at hr;cases hr
   ·rw[hr,hx]at h1;rw[h1];exact hm
 obtain⟨c1,c2⟩:=hc f _ [] _ _ hcall;refine⟨c1,fun w S vs hS hg hv=>?_⟩
 exact c2 [] w S vs ⟨rfl,by intro id l o h;simp at h,by rintro b ⟨id,l,o,h,_⟩;simp at h,by intro id id' l l' o o' b h;simp at h,hS⟩ hg (Pw.map_left (by simpa only[VR]using hv))
end
end Go.Ab
end
section
namespace Go.Ab
def ox (n bytes:Nat):Bool:=Nat.ble ((2*(0+n)+192)*bytes) 281474976710656&&Nat.ble (2*(0+n)+192) 9223372036854775807
def mw (z bytes:Nat):List Da→Option (D×List Ob)
 |[.slice z' es]=>bif Nat.beq z' z&&ox es.length bytes then some (.p (.slice z es),[])else none
 |_=>none
def qV (z bytes:Nat):List Da→Option (D×List Ob)
 |[.slice z' es]=>bif Nat.beq z' z&&ox es.length bytes then some (.arr 0 0 es.length z,[.arr es])else none
 |_=>none
end Go.Ab
end
section
namespace Go.Ab
open Go
variable [Letters]
theorem yo {P : Program} {G : ci} {call : aN} (hcall : eL P G call) (hmix : P.follows .mixedOrders = true) {raw : Nat → Bool} {f fuel : Nat} {fn : Func} {x : Fx} (hf : P.funcs[f]? = some fn) (hx : GL P G raw fn x) (hn : (fn.name == "runtime.NumGoroutine") = false)
  {g:List Da→Option (D×List Ob)} (h:∀xs r out,g xs=some (r,out)→∃z es,xs=[.slice z es]∧(es=[]→fo call fuel x [.sl .na z []] []=some (r,out))∧fo call fuel x [.sl .some z es] []=some (r,out)):iq P G f g:=by
 intro xs r out hg;obtain⟨z,es,rfl,h1,h2⟩:=h xs r out hg;refine⟨⟨fn,hf,?_,hn⟩,fun w S vs hS hgr hv=>?_⟩
 ·cases hb:fn.body with
  |none=>obtain⟨h4,_⟩:=hx;rw[hb]at h4;simp at h4
  |some c=>rfl
 ·obtain⟨v,us,rfl,hv1,hv2⟩:=hv.cons_inv;obtain rfl:=hv2.nil_inv;have hr:HR [] w S []:=⟨rfl,by intro id l o h;simp at h,by rintro b ⟨id,l,o,h,_⟩;simp at h,by intro id id' l l' o o' b h;simp at h,hS⟩
  have hv3:=hv1;simp only[PR]at hv3;obtain⟨a,cap,us,rfl,k1,k2,k3⟩:=hv3;cases a with
  |none=>
   have hus:us=[]:=by
    rcases us with _|⟨u,us⟩
    ·rfl
    ·obtain⟨b,o,hb,_⟩:=k3 (by simp);cases hb
   subst hus;have hes:es=[]:=by
    have:=(PRs_iff.1 k2).1;exact lξ this
   have hvr:VR [] w S (.sl .na z []) (.slice none 0 cap):=by
    simp only[VR];exact⟨none,cap,[],rfl,by simp,by simp[jO],by simp[ug],by simp⟩
   exact aeZ hcall hmix hf hx (h1 hes) hr hgr (Pw.cons hvr Pw.nil)
  |some a=>
   have hvr:VR [] w S (.sl .some z es) (.slice (some a) us.length cap):=by
    simp only[VR];exact⟨some a,cap,us,rfl,k1,by simp[jO],k2,k3⟩
   exact aeZ hcall hmix hf hx h2 hr hgr (Pw.cons hvr Pw.nil)
theorem Ua {P:Program}{G:ci}:eL P G (fun _ _ _=>none):=by intro f ds hp r out h;cases h
theorem Zy {P : Program} {G : ci} (hmix : P.follows .mixedOrders = true) {raw : Nat → Bool} {f : Nat} {fn : Func} {x : Fx} (hf : P.funcs[f]? = some fn) (hx : GL P G raw fn x) (hn : (fn.name == "runtime.NumGoroutine") = false) {z bytes : Nat}
  (h0:fo (fun _ _ _=>none) 0 x [.sl .na z []] []=some (.p (.slice z []),[]))
  (h1:fo (fun _ _ _=>none) 0 x [.sl .some z []] []=some (.p (.slice z []),[]))
  (h2:∀e es,fo (fun _ _ _=>none) 0 x [.sl .some z (e::es)] []=bif ox (es.length+1) bytes then some (.p (.slice z ((e::es).take (0+(es.length+1)))),[])else none):iq P G f (mw z bytes):=by
 refine yo Ua hmix (fuel:=0) hf hx hn fun xs r out hg=>?_
 unfold mw at hg;split at hg
 ·rename_i z' es;cases hz:Nat.beq z' z
  ·simp[hz]at hg
  ·obtain rfl:=lθ hz;simp only[hz,Bool.true_and]at hg;cases hr:ox es.length bytes
   ·simp[hr]at hg
   ·simp only[hr,cond_true,lα,lε]at hg;obtain⟨rfl,rfl⟩:=hg;refine⟨z',es,rfl,fun he=>by subst he;exact h0,?_⟩
    cases es with
    |nil=>exact h1
    |cons e es=>
     rw[h2,show es.length+1=(e::es).length from rfl,hr,cond_true,Nat.zero_add,List.take_length]
 ·simp at hg
theorem We {P : Program} {G : ci} (hmix : P.follows .mixedOrders = true) {raw : Nat → Bool} {f : Nat} {fn : Func} {x : Fx} (hf : P.funcs[f]? = some fn) (hx : GL P G raw fn x) (hn : (fn.name == "runtime.NumGoroutine") = false) {z bytes : Nat}
  (h0:fo (fun _ _ _=>none) 0 x [.sl .na z []] []=some (.arr 0 0 0 z,[.arr []]))
  (h1:fo (fun _ _ _=>none) 0 x [.sl .some z []] []=some (.arr 0 0 0 z,[.arr []]))
  (h2:∀e es,fo (fun _ _ _=>none) 0 x [.sl .some z (e::es)] []=bif ox (es.length+1) bytes then some (.arr 0 0 (0+(es.length+1)) z,[.arr (e::es)])else none):iq P G f (qV z bytes):=by
 refine yo Ua hmix (fuel:=0) hf hx hn fun xs r out hg=>?_
 unfold qV at hg;split at hg
 ·rename_i z' es;cases hz:Nat.beq z' z
  ·simp[hz]at hg
  ·obtain rfl:=lθ hz;simp only[hz,Bool.true_and]at hg;cases hr:ox es.length bytes
   ·simp[hr]at hg
   ·simp only[hr,cond_true,lα,lε]at hg;obtain⟨rfl,rfl⟩:=hg;refine⟨z',es,rfl,fun he=>by subst he;exact h0,?_⟩
    cases es with
    |nil=>exact h1
    |cons e es=>
     rw[h2,show es.length+1=(e::es).length from rfl,hr,cond_true,Nat.zero_add]
 ·simp at hg
def gv (z:Nat)(zd:Da)(bytes:Nat):Fx:=⟨(.seq (.reg 0 [⟨(some 2),.mv,[(.n z)],0,none⟩] none [0]) (.seq (.seq (.reg 0 [⟨(some 3),.mv,[(.t 0)],0,none⟩,⟨(some 4),(.binN 1 .eql),[(.t 3),(.n z)],0,none⟩] none [0,4]) (.cond (.t 4) (.seq (.reg 0 [⟨(some 2),.mv,[(.n z)],0,none⟩] none [2]) .ret) .skip)) (.seq (.reg 1 [⟨(some 5),(.bsl z zd 0 []),[],0,none⟩,⟨(some 6),.mv,[(.t 0)],0,none⟩,⟨(some 7),(.app z bytes),[(.t 5),(.t 6)],0,none⟩,⟨(some 2),.mv,[(.t 7)],1,none⟩] none [2]) .ret))),[(.t 2)],true⟩
theorem Ys (z bytes:Nat)(e:Da)(es:List Da):vC z bytes 0 0 [.sl .exact z [],.sl .some z (e::es)] [] []=bif ox (es.length+1) bytes then some (.arr 0 0 (0+(es.length+1)) z,[(0,.arr (e::es))],[])else none:=by
 simp only[vC,rt,Gi,List.isEmpty_nil,Bool.or_true,cond_true,elems,rb,show Nat.beq z z=true from Nat.beq_refl z,Bool.true_or,Bool.true_and,List.isEmpty_cons,Bool.false_and,cond_false,List.length_nil,List.length_cons,List.nil_append,ox]
theorem Nq (z bytes:Nat)(e:Da)(es:List Da)(k:KV):dG (fun _ _ _=>none) 0 (.app z bytes) 0 [.sl .exact z [],.sl .some z (e::es)] [.unborn] k=bif ox (es.length+1) bytes then k (.arr 0 0 (0+(es.length+1)) z) [.arr (e::es)]else none:=by
 have:dG (fun _ _ _=>none) 0 (.app z bytes) 0 [.sl .exact z [],.sl .some z (e::es)] [.unborn] k=match vC z bytes 0 0 [.sl .exact z [],.sl .some z (e::es)] [] []with
  |none=>none
  |some (v,ups,new)=>k v (grow (aD [.unborn] ups) new):=rfl
 rw[this,Ys];cases ox (es.length+1) bytes<;>rfl
theorem Wf (z:Nat)(zd:Da)(bytes:Nat)(e:Da)(es:List Da):fo (fun _ _ _=>none) 0 (gv z zd bytes) [.sl .some z (e::es)] []=bif ox (es.length+1) bytes then some (.p (.slice z ((e::es).take (0+(es.length+1)))),[])else none:=by
 rw[←C4];have h:Hq (Wk (gv z zd bytes).body) (fun _ _ _=>none) 0 (gv z zd bytes).res (gv z zd bytes).fz [.sl .some z (e::es)] []=dG (fun _ _ _=>none) 0 (.app z bytes) 0 [.sl .exact z [],.sl .some z (e::es)] [.unborn] (fun v hp=>iz v fun v=>t7 hp fun hp=>WZ (.cons 2 v .nil) hp [.t 2] fun ds=>Wv 0 true ds hp):=by kernel_rfl
 rw[h,Nq];cases ox (es.length+1) bytes
 ·rfl
 ·simp only[cond_true,j7,m9,C6,CN];rfl
def oT (z:Nat)(zd:Da)(bytes:Nat):Fx:=⟨(.seq (.reg 0 [⟨(some 2),.mv,[(.n z)],0,none⟩] none [0]) (.seq (.seq (.reg 0 [⟨(some 3),.mv,[(.t 0)],0,none⟩,⟨(some 4),(.binN 1 .eql),[(.t 3),(.n z)],0,none⟩] none [0,4]) (.cond (.t 4) (.seq (.reg 0 [⟨(some 2),.mv,[(.n z)],0,none⟩] none [2]) (.gh (.own 2 z) .ret)) .skip)) (.seq (.reg 1 [⟨(some 5),(.bsl z zd 0 []),[],0,none⟩,⟨(some 6),.mv,[(.t 0)],0,none⟩,⟨(some 7),(.app z bytes),[(.t 5),(.t 6)],0,none⟩,⟨(some 2),.mv,[(.t 7)],1,none⟩] none [2]) .ret))),[(.t 2)],false⟩
theorem Rx (z:Nat)(zd:Da)(bytes:Nat)(e:Da)(es:List Da):fo (fun _ _ _=>none) 0 (oT z zd bytes) [.sl .some z (e::es)] []=bif ox (es.length+1) bytes then some (.arr 0 0 (0+(es.length+1)) z,[.arr (e::es)])else none:=by
 rw[←C4];have h:Hq (Wk (oT z zd bytes).body) (fun _ _ _=>none) 0 (oT z zd bytes).res (oT z zd bytes).fz [.sl .some z (e::es)] []=dG (fun _ _ _=>none) 0 (.app z bytes) 0 [.sl .exact z [],.sl .some z (e::es)] [.unborn] (fun v hp=>iz v fun v=>t7 hp fun hp=>WZ (.cons 2 v .nil) hp [.t 2] fun ds=>Wv 0 false ds hp):=by kernel_rfl
 rw[h,Nq];cases ox (es.length+1) bytes
 ·rfl
 ·simp only[cond_true,j7,m9,C6,CN];rfl
theorem aev {P:Program}{G:ci}{tab:Nat→Option Fn}(h:Ba P G tab){k:Nat}{g:List Da→Option (D×List Ob)}(hg:iq P G k g):Ba P G (fun f=>bif Nat.beq f k then some (.prim g)else tab f):=by
 refine⟨fun f x hx=>?_,fun f g' hx=>?_,fun f g' x hx=>?_,fun f g' hx=>?_⟩
 ·cases hk:Nat.beq f k
  ·rw[hk]at hx;exact h.code f x hx
  ·rw[hk]at hx;simp at hx
 ·cases hk:Nat.beq f k
  ·rw[hk]at hx;exact h.prim f g' hx
  ·rw[hk]at hx;simp only[cond_true,lα,Fn.prim.injEq]at hx;subst hx;rw[lθ hk];exact hg
 ·cases hk:Nat.beq f k
  ·rw[hk]at hx;exact h.both f g' x hx
  ·rw[hk]at hx;simp at hx
 ·cases hk:Nat.beq f k
  ·rw[hk]at hx;exact h.any f g' hx
  ·rw[hk]at hx;simp at hx
theorem adB {P:Program}{G:ci}(hmix:P.follows .mixedOrders=true){tab:Nat→Option Fn}{tabH:Nat→Option Hn}(h:Ba P G tab)(hs:∀f,same (tabH f) (tab f))(n:Nat):eL P G (TF tabH n):=by
 rw[Z8 hs n];exact xv hmix h n
end Go.Ab
end
section
namespace Go.Ab
open Go
def aap (x:Nat):List Nat→List Nat
 |[]=>[x]
 |y::r=>bif Nat.beq x y then y::r else bif Nat.blt x y then x::y::r else y::aap x r
def ags (x:Nat):List Nat→List Nat
 |[]=>[]
 |y::r=>bif Nat.beq x y then r else y::ags x r
def aip:List Nat→List Nat→List Nat
 |[],l=>l
 |x::r,l=>aap x (aip r l)
def bF (x:Nat):List Nat→Bool
 |[]=>false
 |y::r=>bif Nat.beq x y then true else bF x r
def afg:A→List Nat→List Nat
 | .t n,l=>aap n l
 |_,l=>l
def abf:List A→List Nat→List Nat
 |[],l=>l
 |a::r,l=>afg a (abf r l)
def ah3 (x:fc)(l:List Nat):List Nat:=
 abf x.as (match x.gd with
  |some (g,_)=>aap g (match x.dst with|some d=>ags d l|none=>l)
  |none=>(match x.dst with|some d=>ags d l|none=>l))
def TY:List fc→List Nat→List Nat
 |[],out=>out
 |x::r,out=>ah3 x (TY r out)
def TJ (t:Nat):List (Nat×fc)→Option fc
 |[]=>none
 |(s,x)::r=>bif Nat.beq s t then some x else TJ t r
def Mf (d:List (Nat×fc)):Nat→Nat→Nat→Option (Nat×Nat)
 |0,_,_=>none
 |n+1,p,off=>match TJ p d with
  |none=>some (p,off)
  |some x=>match x.op,x.as with
   | .fa k,.t q::_=>Mf d n q (off+k)
   | .mv,.t q::_=>Mf d n q off
   | .nilck,.t q::_=>Mf d n q off
   |_,_=>none
def aiX (d:List (Nat×fc))(x:fc):List Gh:=
 match x.op,x.as with
 | .app z _,.t t::_=>match TJ t d with
  |none=>[.own t z]
  |some y=>match y.op,y.as with
   | .mv,.t s::_=>match TJ s d with
    |none=>[.own s z]
    |some _=>[]
   | .load _ _,.t p::_=>match Mf d 20 p 0 with
    |some (q,off)=>[.ownc q off z]
    |none=>[]
   |_,_=>[]
 |_,_=>[]
def aa5:List (Nat×fc)→List fc→List Gh
 |_,[]=>[]
 |d,x::r=>aiX d x++aa5 (match x.dst with|some s=>(s,x)::d|none=>d) r
def yk:Co→List Gh
 | .reg _ ops _ _=>aa5 [] ops
 | .seq a b=>yk a++yk b
 | .cond _ a b=>yk a++yk b
 | .block _ b=>yk b
 | .loop _ b=>yk b
 | .gh _ b=>yk b
 |_=>[]
def aiD:Gh→Gh→Bool
 | .own s z,.own t y=>Nat.beq s t&&Nat.beq z y
 | .ownc s o z,.ownc t p y=>Nat.beq s t&&(Nat.beq o p&&Nat.beq z y)
 |_,_=>false
def aal (g:Gh):List Gh→Bool
 |[]=>false
 |h::r=>bif aiD g h then true else aal g r
def abg:Gh→Nat
 | .own s _=>s
 | .ownc s _ _=>s
 | .frz s=>s
 | .frzc s _=>s
 | .keep _=>0
def Qf (h:List Nat):List Gh→List Gh→Co→Co
 |[],_,c=>c
 |g::r,seen,c=>bif bF (abg g) h&&!aal g seen then .gh g (Qf h r (g::seen) c)else Qf h r seen c
def ahO:List (Nat×List Nat)→Nat→List Nat
 |[],_=>[]
 |(j,l)::r,i=>bif Nat.beq j i then l else ahO r i
def B0 (rl:List Nat):Co→List Nat→List (Nat×List Nat)→Co×List Nat
 | .skip,out,_=>(.skip,out)
 | .ret,_,_=>(.ret,rl)
 | .exit i,_,ex=>(.exit i,ahO ex i)
 | .reg n ops ps _,out,_=>(.reg n ops ps out,TY ops out)
 | .seq a b,out,ex=>(.seq (B0 rl a (B0 rl b out ex).2 ex).1 (B0 rl b out ex).1,(B0 rl a (B0 rl b out ex).2 ex).2)
 | .cond c t e,out,ex=>(.cond c (B0 rl t out ex).1 (B0 rl e out ex).1,afg c (aip (B0 rl t out ex).2 (B0 rl e out ex).2))
 | .block i b,out,ex=>(.block i (B0 rl b out ((i,out)::ex)).1,(B0 rl b out ((i,out)::ex)).2)
 | .loop _ b,_,ex=>(Qf (B0 rl b [] ex).2 (yk b) [] (.loop (B0 rl b [] ex).2 (B0 rl b (B0 rl b [] ex).2 ex).1),(B0 rl b [] ex).2)
 | .gh g c,out,ex=>(.gh g (B0 rl c out ex).1,(B0 rl c out ex).2)
theorem EB (h:List Nat)(c:Co):∀(gs seen:List Gh),er (Qf h gs seen c)=er c
 |[],_=>rfl
 |g::r,seen=>by
  simp only[Qf];cases bF (abg g) h&&!aal g seen
  ·exact EB h c r seen
  ·exact EB h c r (g::seen)
theorem sO (rl:List Nat):∀(c:Co) (out:List Nat) (ex:List (Nat×List Nat)),er (B0 rl c out ex).1=er c
 | .skip,_,_=>rfl
 | .ret,_,_=>rfl
 | .exit _,_,_=>rfl
 | .reg _ _ _ _,_,_=>rfl
 | .seq a b,out,ex=>by simp only[B0,er,sO rl a,sO rl b]
 | .cond c t e,out,ex=>by simp only[B0,er,sO rl t,sO rl e]
 | .block i b,out,ex=>by simp only[B0,er,sO rl b]
 | .loop _ b,out,ex=>by simp only[B0,EB,er,sO rl b]
 | .gh g c,out,ex=>by simp only[B0,er,sO rl c]
def ghAt:List Nat→Gh→Co→Co
 |[],g,c=> .gh g c
 |0::p,g,.seq a b=> .seq (ghAt p g a) b
 |1::p,g,.seq a b=> .seq a (ghAt p g b)
 |0::p,g,.cond c a b=> .cond c (ghAt p g a) b
 |1::p,g,.cond c a b=> .cond c a (ghAt p g b)
 |0::p,g,.block i b=> .block i (ghAt p g b)
 |0::p,g,.loop l b=> .loop l (ghAt p g b)
 |0::p,g,.gh h b=> .gh h (ghAt p g b)
 |_,_,c=>c
theorem adA:∀(p:List Nat) (g:Gh) (c:Co),er (ghAt p g c)=er c:=by
 intro p g c;induction p,g,c using ghAt.induct<;>simp_all [ghAt,er]
def TO:List (List Nat×Gh)→Co→Co
 |[],c=>c
 |(p,g)::r,c=>ghAt p g (TO r c)
theorem NY:∀(l:List (List Nat×Gh)) (c:Co),er (TO l c)=er c
 |[],_=>rfl
 |(p,g)::r,c=>by simp only[TO,adA,NY r]
theorem acw {P:Program}{G:ci}{raw:Nat→Bool}{N:Nat}{ops:List Oper}{draw:Bool}{x:Co}(h:V4 P G raw N ops draw=some x):er x=x:=by
 unfold V4 at h;split at h
 ·cases h
 ·cases draw
  ·simp only[cond_false,lα]at h;subst h;rfl
  ·simp only[cond_true]at h;cases he:j6 ops 0
   ·rw[he]at h;cases h
   ·rw[he]at h;simp only[cond_true]at h;split at h
    ·simp only[lα]at h;subst h;rfl
    ·cases h
theorem afG {P:Program}{G:ci}{raw:Nat→Bool}{N:Nat}:∀{c:Code} {x:Co},JS P G raw N c=some x→er x=x:=by
 intro c;induction c<;>intro x h<;>simp only[JS]at h
 all_goals try (first|(simp only[lα]at h;subst h;rfl)|(cases h;done)|exact acw h)
 case seq a b iha ihb=>
  split at h
  ·rename_i a' b' ha hb;simp only[lα]at h;subst h;simp only[er,iha ha,ihb hb]
  ·cases h
 case cond c t e iht ihe=>
  split at h
  ·rename_i c' t' e' hc ht he;simp only[lα]at h;subst h;simp only[er,iht ht,ihe he]
  ·cases h
 case block i b ih=>
  split at h
  ·rename_i b' hb;simp only[lα]at h;subst h;simp only[er,ih hb]
  ·cases h
 case loop b ih=>
  split at h
  ·rename_i b' hb;simp only[lα]at h;subst h;simp only[er,ih hb]
  ·cases h
def ahq:Rv→Nat
 | .t n=>n
 | .cell a _ _=>a
def L9:List Rv→List Nat
 |[]=>[]
 |r::rs=>aap (ahq r) (L9 rs)
structure Cfg where
 raw:Nat→Nat→Bool
 thaw:Nat→Bool
 ghs:Nat→List (List Nat×Gh)
 prim:Nat→Option (List Da→Option (D×List Ob))
def lF (P:Program)(G:ci)(s:Cfg)(f:Nat):Option Fx:=
 match P.funcs[f]? with
 |some fn=>match fn.body with
  |some c=>match JS P G (s.raw f) fn.ntmps c,V5 P fn.results.toList with
   |some x,some rs=>some ⟨TO (s.ghs f) (B0 (L9 rs) x (L9 rs) []).1,rs,!s.thaw f⟩
   |_,_=>none
  |none=>none
 |none=>none
theorem Ak {P:Program}{G:ci}{s:Cfg}{f:Nat}{x:Fx}(h:lF P G s f=some x):∃fn,P.funcs[f]?=some fn∧GL P G (s.raw f) fn x:=by
 unfold lF at h;split at h
 ·rename_i fn hf;refine⟨fn,hf,?_⟩;split at h
  ·rename_i c hc;split at h
   ·rename_i y rs hy hr;simp only[lα]at h;subst h;refine⟨?_,hr⟩;rw[hc];simp only[hy,NY,sO,afG hy]
   ·cases h
  ·cases h
 ·cases h
def abo (P:Program)(G:ci)(s:Cfg)(f:Nat):Option Fn:=
 match s.prim f with
 |some g=>match lF P G s f with
  |some x=>some (.both g x)
  |none=>some (.prim g)
 |none=>match lF P G s f with
  |some x=>some (.code x)
  |none=>none
variable [Letters]
theorem aeu {P : Program} {G : ci} {s : Cfg} (hn : P.funcs.toList.all (fun fn => !(fn.name == "runtime.NumGoroutine")) = true) (hp : ∀ f g, s.prim f = some g → iq P G f g) : Ba P G (abo P G s) := by
 have hc : ∀ f y, lF P G s f = some y → ∃ fn raw, P.funcs[f]? = some fn ∧ GL P G raw fn y ∧ (fn.name == "runtime.NumGoroutine") = false := by
  intro f y hy;obtain⟨fn,h1,h2⟩:=Ak hy;refine⟨fn,s.raw f,h1,h2,?_⟩;have hm:fn∈P.funcs.toList:=by
   rw[Array.mem_toList_iff];exact Array.mem_of_getElem? h1
  simpa using List.all_eq_true.mp hn fn hm
 refine⟨fun f x h=>?_,fun f g h=>?_,fun f g x h=>?_,fun f g h=>?_⟩
 all_goals
  unfold abo at h;split at h
  ·rename_i g' hg;split at h
   ·rename_i y hy;first
     |(cases h;done)
     |(simp only[lα,Fn.both.injEq]at h;obtain⟨rfl,rfl⟩:=h;exact⟨hp f _ hg,hc f _ hy⟩)
   ·first
     |(cases h;done)
     |(simp only[lα,Fn.prim.injEq]at h;subst h;exact hp f _ hg)
  ·split at h
   ·rename_i y hy;first
     |(cases h;done)
     |(simp only[lα,Fn.code.injEq]at h;subst h;exact hc f _ hy)
   ·cases h
end Go.Ab
end
section
namespace Go.Ab
open Go
noncomputable section
structure Bx (α:Type) where
 un:α
def lZ (l t:Tm):Tm:=Tm.rec (motive:=fun _=>Tm) t (fun s d _ ih=> .cons s d ih) l
def fA:Tm→List Nat
 | .nil=>[]
 | .cons s _ r=>s::fA r
def AK (s:Nat):List Nat→Option Nat
 |[]=>none
 |x::r=>bif Nat.beq x s then some 0 else match AK s r with
  |some j=>some (j+1)
  |none=>none
def tlT (l:Tm):Tm:=Tm.rec (motive:=fun _=>Tm) .nil (fun _ _ r _=>r) l
def hdT (l:Tm):D:=Tm.rec (motive:=fun _=>D) .junk (fun _ d _ _=>d) l
def Tx:Nat→Bx (Tm→D)
 |0=>⟨fun l=>hdT l⟩
 |1=>⟨fun l=>hdT (tlT l)⟩
 |2=>⟨fun l=>hdT (tlT (tlT l))⟩
 |n+3=>⟨fun l=>(Tx n).un (tlT (tlT (tlT l)))⟩
theorem NQ:∀(n:Nat) (l:Tm),(Tx n).un l=Nat.rec (motive:=fun _=>Tm→D) (fun l=>hdT l) (fun _ ih l=>ih (tlT l)) n l
 |0,l=>rfl
 |1,l=>rfl
 |2,l=>rfl
 |n+3,l=>NQ n _
theorem It (s:Nat)(t:Tm):∀(l:Tm),get (lZ l t) s=match AK s (fA l)with
  |some j=>(Tx j).un l
  |none=>get t s
 | .nil=>rfl
 | .cons x d r=>by
  show(bif Nat.beq x s then d else get (lZ r t) s)=_;simp only[fA,AK];cases h:Nat.beq x s
  ·simp only[cond_false];rw[It s t r];cases AK s (fA r)with
   |none=>rfl
   |some j=>
    simp only[NQ];rfl
  ·rfl
def Po (σ:List Nat):A→Bx (Tm→Tm→D)
 | .t n=>match AK n σ with
  |some j=>⟨fun _ l=>(Tx j).un l⟩
  |none=>⟨fun t _=>sT t n⟩
 | .c x=>⟨fun _ _=> .p x⟩
 | .n z=>⟨fun _ _=> .sl .nil z []⟩
 | .f g=>⟨fun _ _=> .p (.fn g [])⟩
 | .g x=>⟨fun _ _=> .ip x 0⟩
theorem CY (l t:Tm)(a:A):(Po (fA l) a).un t l=evA (lZ l t) a:=by
 cases a<;>try rfl
 rename_i n;show _=sT (lZ l t) n;rw[il,It];simp only[Po];cases AK n (fA l)with
 |none=>simp only[il]
 |some j=>rfl
abbrev Op1:=Bx (Tm→Tm→D)
def AR (as:List Op1)(t l:Tm):List D:=List.rec (motive:=fun _=>List D) [] (fun a _ ih=>a.un t l::ih) as
def opK (o:O)(kk:Nat)(as:List Op1):Bx (aN→Nat→Tm→Tm→List Ob→KV→R):=
 match o,as with
 | .mv,[a]=>⟨fun _ _ t l hp k=>k (a.un t l) hp⟩
 | .pick,[c,a,b]=>⟨fun _ _ t l hp k=>aa6 (c.un t l) (a.un t l) (b.un t l) fun v=>k v hp⟩
 | .bin op,[x,y]=>⟨fun _ _ t l hp k=>acl op (x.un t l) (y.un t l) fun v=>k v hp⟩
 | .un .not,[x]=>⟨fun _ _ t l hp k=>ag6 (x.un t l) fun v=>k v hp⟩
 | .ia esz,[x,i]=>⟨fun _ _ t l hp k=>iaG esz (x.un t l) (i.un t l) fun v=>k v hp⟩
 | .ix,[x,i]=>⟨fun _ _ t l hp k=>ixK (x.un t l) (i.un t l) fun v=>k v hp⟩
 | .fa off,[x]=>⟨fun _ _ t l hp k=>faG off (x.un t l) fun v=>k v hp⟩
 | .nilck,[x]=>⟨fun _ _ t l hp k=>aaY (x.un t l) fun v=>k v hp⟩
 | .ext i,[x]=>⟨fun _ _ t l hp k=>adC i (x.un t l) fun v=>k v hp⟩
 | .len kd,[x]=>⟨fun _ _ t l hp k=>ah2 kd (x.un t l) hp fun v=>k v hp⟩
 | .call f raw,as=>⟨fun call _ t l hp k=>Tn call f raw (AR as t l) hp k⟩
 | .alloc zs,[]=>⟨fun _ base _ _ hp k=>JO base kk zs hp k⟩
 | .box n,[d]=>⟨fun _ base t l hp k=>acu base n kk (d.un t l) hp k⟩
 | .store n,[a,d]=>⟨fun call base t l hp k=>Mc call base n kk (a.un t l) (d.un t l) hp k⟩
 | .slStr lo hi,x::xs=>⟨fun _ _ t l hp k=>L8 lo hi (x.un t l) (AR xs t l) fun v=>k v hp⟩
 | .fld off n agg,[x]=>⟨fun _ _ t l hp k=>aad off n agg (x.un t l) fun v=>k v hp⟩
 | .build zs ps,vs=>⟨fun _ _ t l hp k=>JR zs ps (AR vs t l) fun v=>k v hp⟩
 | .app esz bytes,[a,b]=>⟨fun call base t l hp k=>acg call base esz bytes kk (a.un t l) (b.un t l) hp k⟩
 | .load 1 false,[x]=>⟨fun _ _ t l hp k=>aaE (x.un t l) hp fun v=>k v hp⟩
 | .load n true,[x]=>⟨fun _ _ t l hp k=>afa n true (x.un t l) hp fun v=>k v hp⟩
 |o,as=>⟨fun call base t l hp k=>WC call base o kk (AR as t l) hp k⟩
theorem So (o:O)(kk:Nat)(as:List Op1)(call:aN)(base:Nat)(t l:Tm)(hp:List Ob)(k:KV):(opK o kk as).un call base t l hp k=WC call base o kk (AR as t l) hp k:=by
 unfold opK;split<;>first
  |rfl
  |(
    show _=WC call base (.load _ true) kk [_] hp k;unfold WC;split<;>simp_all)
def wc (σ:List Nat):List A→List Op1
 |[]=>[]
 |a::r=>Po σ a::wc σ r
theorem y9 (t l:Tm):∀as,AR (wc (fA l) as) t l=xX (lZ l t) as
 |[]=>rfl
 |a::r=>by
  show(Po (fA l) a).un t l::AR (wc (fA l) r) t l=evA (lZ l t) a::xX (lZ l t) r;rw[CY,y9 t l r]
def opX (σ:List Nat)(x:fc):Bx (aN→Nat→Tm→Tm→List Ob→KV→R):=
 match x.gd with
 |none=>opK x.op x.k (wc σ x.as)
 |some (g,w)=>⟨fun call base t l hp k=>gG ((Po σ (.t g)).un t l) w (fun k=>(opK x.op x.k (wc σ x.as)).un call base t l hp k) hp k⟩
theorem aa2 (x:fc)(call:aN)(base:Nat)(t l:Tm)(hp:List Ob)(k:KV):(opX (fA l) x).un call base t l hp k=gdO x.gd (lZ l t) (fun k=>WC call base x.op x.k (xX (lZ l t) x.as) hp k) hp k:=by
 unfold opX gdO;cases h:x.gd with
 |none=>simp only[So,y9]
 |some p=>
  obtain⟨g,w⟩:=p;simp only[So,y9,CY];rfl
def Sq (σ:List Nat):List Nat→Bx (Tm→Tm→Tm)
 |[]=>⟨fun _ _=> .nil⟩
 |s::r=>⟨fun t l=> .cons s ((Po σ (.t s)).un t l) ((Sq σ r).un t l)⟩
theorem Lv (t l:Tm):∀out,(Sq (fA l) out).un t l=ni out (lZ l t)
 |[]=>rfl
 |s::r=>by
  show Tm.cons s ((Po (fA l) (.t s)).un t l) ((Sq (fA l) r).un t l)=_;rw[CY,Lv t l r];rfl
def WQ (out:List Nat):List Nat→List fc→Bx (aN→Nat→Tm→Tm→List Ob→K→R)
 |σ,[]=>⟨fun _ _ t l hp k=>k ((Sq σ out).un t l) hp⟩
 |σ,x::r=>match x.dst with
  |some d=>⟨fun call base t l hp k=>(opX σ x).un call base t l hp fun v hp=>(WQ out (d::σ) r).un call base t (.cons d v l) hp k⟩
  |none=>⟨fun call base t l hp k=>(opX σ x).un call base t l hp fun _ hp=>(WQ out σ r).un call base t l hp k⟩
theorem CZ (out:List Nat)(call:aN)(base:Nat)(t:Tm)(k:K):∀(ops:List fc) (l:Tm) (hp:List Ob),(WQ out (fA l) ops).un call base t l hp k=Kk call base ops (lZ l t) hp fun tm hp=>k (ni out tm) hp
 |[],l,hp=>by
  show k ((Sq (fA l) out).un t l) hp=k (ni out (lZ l t)) hp;rw[Lv]
 |x::r,l,hp=>by
  have step:Kk call base (x::r) (lZ l t) hp (fun tm hp=>k (ni out tm) hp)=gdO x.gd (lZ l t) (fun k=>WC call base x.op x.k (xX (lZ l t) x.as) hp k) hp fun v hp=>Kk call base r (put x.dst v (lZ l t)) hp fun tm hp=>k (ni out tm) hp:=rfl
  rw[step];unfold WQ;cases hd:x.dst with
  |none=>
   simp only[aa2];congr 1;funext v hp;exact CZ out call base t k r l hp
  |some d=>
   simp only[aa2];congr 1;funext v hp;exact CZ out call base t k r (.cons d v l) hp
structure gt where
 rs:List Nat
 wl:List (Nat×Bool)
 grow:Bool
 lim:Nat
def wo (l:List (Nat×Bool)):List Nat:=List.rec (motive:=fun _=>List Nat) [] (fun p _ ih=>bif p.2 then p.1::ih else ih) l
def cE (f:gt):eB:=⟨f.rs,wo f.wl,f.grow,f.lim⟩
def AS (ids:List Nat)(hp:List Ob)(l:List (Nat×Ob)):List (Nat×Bool):=List.rec (motive:=fun _=>List (Nat×Bool)) [] (fun p _ ih=>(p.1,!(Bm p.1 ids&&RD (bb hp p.1) p.2))::ih) l
theorem oG (ids:List Nat)(hp:List Ob):∀l,wo (AS ids hp l)=oF ids hp l
 |[]=>rfl
 |(i,o)::r=>by
  show(bif !(Bm i ids&&RD (bb hp i) o)then i::wo (AS ids hp r)else wo (AS ids hp r))=_;rw[oG ids hp r];simp only[oF];cases Bm i ids&&RD (bb hp i) o<;>rfl
def adI (i:Nat)(l:List (Nat×Bool)):Bool:=List.rec (motive:=fun _=>Bool) false (fun p _ ih=>Bool.rec (motive:=fun _=>Bool) ih (Bool.rec (motive:=fun _=>Bool) ih true p.2) (Nat.beq p.1 i)) l
theorem TP (i:Nat):∀l,adI i l=(wo l).contains i
 |[]=>rfl
 |(j,b)::r=>by
  show Bool.rec (motive:=fun _=>Bool) (adI i r) (Bool.rec (motive:=fun _=>Bool) (adI i r) true b) (Nat.beq j i)=(bif b then j::wo r else wo r).contains i;rw[TP i r];cases b with
  |false=>cases Nat.beq j i<;>rfl
  |true=>
   simp only[cond_true,List.contains_cons];have:(i==j)=Nat.beq j i:=by rw[mθ,beq_iff_eq,Nat.beq_eq];exact eq_comm
   rw[this];cases Nat.beq j i<;>rfl
def Xf (a:gt)(i:Nat):Bool:=Bool.rec (motive:=fun _=>Bool) (Bool.rec (motive:=fun _=>Bool) false (Nat.ble a.lim i) a.grow) true (adI i a.wl)
theorem UL (a:gt)(i:Nat):Xf a i=wr (cE a) i:=by
 unfold Xf wr cE;rw[TP];cases(wo a.wl).contains i<;>cases a.grow<;>simp
def T9 (a:gt)(l:List Nat):Bool:=List.rec (motive:=fun _=>Bool) true (fun i _ ih=>Bool.rec (motive:=fun _=>Bool) ih false (Xf a i)) l
theorem OW (a:gt):∀l,T9 a l=l.all (fun i=>!wr (cE a) i)
 |[]=>rfl
 |i::r=>by
  show Bool.rec (motive:=fun _=>Bool) (T9 a r) false (Xf a i)=_;rw[OW a r,UL];simp only[List.all_cons];cases wr (cE a) i<;>rfl
def Fi (a:gt)(l:List (Nat×Bool)):Bool:=List.rec (motive:=fun _=>Bool) true (fun p _ ih=>Bool.rec (motive:=fun _=>Bool) ih (Bool.rec (motive:=fun _=>Bool) ih false p.2) (Xf a p.1)) l
theorem Ij (a:gt):∀l,Fi a l=(wo l).all (fun i=>!wr (cE a) i)
 |[]=>rfl
 |(i,b)::r=>by
  show Bool.rec (motive:=fun _=>Bool) (Fi a r) (Bool.rec (motive:=fun _=>Bool) (Fi a r) false b) (Xf a i)=(bif b then i::wo r else wo r).all _;rw[Ij a r,UL];cases b with
  |false=>cases wr (cE a) i<;>rfl
  |true=>
   simp only[cond_true,List.all_cons];cases wr (cE a) i<;>rfl
def Rj (a b:gt):Bool:=
 Bool.rec (motive:=fun _=>Bool) false (Bool.rec (motive:=fun _=>Bool) false (Bool.rec (motive:=fun _=>Bool) false (Bool.rec (motive:=fun _=>Bool) false (Bool.rec (motive:=fun _=>Bool) true (Bool.rec (motive:=fun _=>Bool) true false b.grow) a.grow) (Fi b a.wl)) (T9 b a.rs)) (Fi a b.wl)) (T9 a b.rs)
theorem VW (a b:gt):Rj a b=ol (cE a) (cE b):=by
 unfold Rj ol;simp only[OW,Ij];show _=((cE b).rs.all _&&(wo b.wl).all _&&(cE a).rs.all _&&(wo a.wl).all _&&!(a.grow&&b.grow));simp only[cE];cases b.rs.all _<;>cases(wo b.wl).all _<;>cases a.rs.all _<;>cases(wo a.wl).all _<;>cases a.grow<;>cases b.grow<;>rfl
def pJ (fs:List gt):List (Nat×Nat)→Bool
 |[]=>true
 |(i,j)::r=>match fs[i]?,fs[j]? with
  |some a,some b=>Bool.rec (motive:=fun _=>Bool) false (pJ fs r) (Rj a b)
  |_,_=>false
theorem qI (fs:List gt):∀ps,pJ fs ps=fX (fs.map cE) ps
 |[]=>rfl
 |(i,j)::r=>by
  simp only[pJ,fX,lχ,qI fs r];cases fs[i]? with
  |none=>rfl
  |some a=>
   cases fs[j]? with
   |none=>rfl
   |some b=>
    simp only[Option.map_some,VW];cases ol (cE a) (cE b)<;>rfl
abbrev KL:=D→List Ob→gt→R
def Rt (call:aN)(f:Nat)(raw:Bool)(vs:List D)(hp:List Ob)(k:KL):R:=
 forceNs (iy hp bA (gy vs []) []) fun ids=>
  forceDs (gA (lH ids) (Bool.rec (motive:=fun _=>List D) (vs.map norm) vs raw)) fun args=>forceHb (qZ ids hp) fun hp'=>
   caseO (call f args hp') none fun ro=>Prod.rec (motive:=fun _=>R) (fun r out=>wv (Nat.ble ids.length out.length)
    (iz (jJ (back ids.length hp.length ids out.length) r) fun v=>forceHb (rA (back ids.length hp.length ids out.length) out) fun out'=>
     forceHb (grow (aD hp (ids.zip out')) (out'.drop ids.length)) fun hp2=>k v hp2 ⟨ids,AS ids hp (ids.zip out'),!(out'.drop ids.length).isEmpty,hp.length⟩) none) ro
theorem V9 (call:aN)(f:Nat)(raw:Bool)(vs:List D)(hp:List Ob){k:KL}{q:KF}(h:∀v hp f,k v hp f=q v hp (cE f)):Rt call f raw vs hp k=HO call f raw vs hp q:=by
 unfold Rt HO;simp only[h,cE,oG]
def Rr (call:aN)(f:Nat)(raw:Bool)(vs:List D)(hp:List Ob)(k:KL):R:=
 HN call f raw vs hp (Rt call f raw vs hp k) fun v=>k v hp ⟨[],[],false,hp.length⟩
theorem V7 (call:aN)(f:Nat)(raw:Bool)(vs:List D)(hp:List Ob){k:KL}{q:KF}(h:∀v hp f,k v hp f=q v hp (cE f)):Rr call f raw vs hp k=NB call f raw vs hp q:=by
 unfold Rr NB;rw[V9 _ _ _ _ _ h];simp only[h];rfl
def TM (call:aN)(base:Nat)(o:O)(kk:Nat)(vs:List D)(hp:List Ob)(k:KL):R:=
 bif !(df o)||cQ (bb hp (base+kk))then
  match qH call base o kk vs (bQ o vs hp) ((bQ o vs hp).map (bb hp)) hp.length with
  |none=>none
  |some (v,ups,new)=>k v (grow (aD hp ups) new) ⟨bif df o then(base+kk)::bQ o vs hp else bQ o vs hp,AS (bQ o vs hp) hp ups,!new.isEmpty,hp.length⟩
 else none
theorem aag (call:aN)(base:Nat)(o:O)(kk:Nat)(vs:List D)(hp:List Ob){k:KL}{q:KF}(h:∀v hp f,k v hp f=q v hp (cE f)):TM call base o kk vs hp k=Kd call base o kk vs hp q:=by
 unfold TM Kd;cases !(df o)||cQ (bb hp (base+kk))with
 |false=>rfl
 |true=>
  simp only[cond_true];cases qH call base o kk vs (bQ o vs hp) ((bQ o vs hp).map (bb hp)) hp.length with
  |none=>rfl
  |some e=>
   obtain⟨v,ups,new⟩:=e;simp only[h,cE,oG]
def Sm (o:O)(kk:Nat)(as:List Op1):Bx (aN→Nat→Tm→Tm→List Ob→KL→R):=
 match o with
 | .call f raw=>⟨fun call _ t l hp k=>Rr call f raw (AR as t l) hp k⟩
 |o=>match p6 o with
  |true=>⟨fun call base t l hp k=>(opK o kk as).un call base t l hp fun v hp'=>k v hp' ⟨bQ o (AR as t l) hp,[],false,hp.length⟩⟩
  |false=>⟨fun call base t l hp k=>TM call base o kk (AR as t l) hp k⟩
theorem Sn {o:O}(hs:p6 o=true)(kk:Nat)(as:List Op1):Sm o kk as=⟨fun call base t l hp k=>(opK o kk as).un call base t l hp fun v hp'=>k v hp' ⟨bQ o (AR as t l) hp,[],false,hp.length⟩⟩:=by
 cases o<;>first
  |rfl
  |(cases hs;done)
  |(simp only[Sm,hs])
theorem RP {call:aN}{base kk:Nat}{o:O}{vs:List D}{hp:List Ob}{q:KF}(hs:p6 o=true):B3 call base o kk vs hp q=WC call base o kk vs hp fun v hp'=>q v hp' (aeX o vs hp):=by
 cases o<;>first
  |rfl
  |(cases hs;done)
  |(simp only[B3,hs])
theorem WP {o:O}(hs:p6 o=false)(hc:∀f raw,o≠ .call f raw)(kk:Nat)(as:List Op1):Sm o kk as=⟨fun call base t l hp k=>TM call base o kk (AR as t l) hp k⟩:=by
 cases o<;>first
  |rfl
  |exact absurd rfl (hc _ _)
  |(cases hs;done)
  |(simp only[Sm,hs])
theorem WD {call:aN}{base kk:Nat}{o:O}{vs:List D}{hp:List Ob}{q:KF}(hs:p6 o=false)(hc:∀f raw,o≠ .call f raw):B3 call base o kk vs hp q=Kd call base o kk vs hp q:=by
 cases o<;>first
  |rfl
  |exact absurd rfl (hc _ _)
  |(cases hs;done)
  |(simp only[B3,hs])
theorem Ue (o:O)(kk:Nat)(as:List Op1)(call:aN)(base:Nat)(t l:Tm)(hp:List Ob){k:KL}{q:KF}(h:∀v hp f,k v hp f=q v hp (cE f)):(Sm o kk as).un call base t l hp k=B3 call base o kk (AR as t l) hp q:=by
 by_cases hc:∃f raw,o= .call f raw
 ·obtain⟨f,raw,rfl⟩:=hc;exact V7 _ _ _ _ _ h
 ·have hc:∀f raw,o≠ .call f raw:=fun f raw e=>hc ⟨f,raw,e⟩
  cases hs:p6 o with
  |true=>
   rw[Sn hs,RP hs];show(opK o kk as).un call base t l hp _=_;rw[So];congr 1;funext v hp';exact h _ _ _
  |false=>
   rw[WP hs hc,WD hs hc];exact aag _ _ _ _ _ _ h
def aef (σ:List Nat)(x:fc):Bx (aN→Nat→Tm→Tm→List Ob→KL→R):=
 match x.gd with
 |none=>Sm x.op x.k (wc σ x.as)
 |some (g,w)=>⟨fun call base t l hp k=>Kf ((Po σ (.t g)).un t l) w ((Sm x.op x.k (wc σ x.as)).un call base t l hp k) (k (.tup []) hp ⟨[],[],false,0⟩)⟩
theorem Uf (x:fc)(call:aN)(base:Nat)(t l:Tm)(hp:List Ob){k:KL}{q:KF}(hk:∀v hp f,k v hp f=q v hp (cE f)):(aef (fA l) x).un call base t l hp k=gdF x.gd (lZ l t) (fun k=>B3 call base x.op x.k (xX (lZ l t) x.as) hp k) hp q:=by
 unfold aef gdF;cases h:x.gd with
 |none=>simp only[Ue _ _ _ _ _ _ _ _ hk,y9]
 |some p=>
  obtain⟨g,w⟩:=p;simp only[Ue _ _ _ _ _ _ _ _ hk,y9,CY,hk];rfl
def Pp (out:List Nat):List Nat→List fc→Bx (aN→Nat→Tm→Tm→List Ob→List gt→(Tm→List Ob→List gt→R)→R)
 |σ,[]=>⟨fun _ _ t l hp fs k=>k ((Sq σ out).un t l) hp fs.reverse⟩
 |σ,x::r=>match x.dst with
  |some d=>⟨fun call base t l hp fs k=>(aef σ x).un call base t l hp fun v hp f=>(Pp out (d::σ) r).un call base t (.cons d v l) hp (f::fs) k⟩
  |none=>⟨fun call base t l hp fs k=>(aef σ x).un call base t l hp fun _ hp f=>(Pp out σ r).un call base t l hp (f::fs) k⟩
theorem Fv (out:List Nat)(call:aN)(base:Nat)(t:Tm){k:Tm→List Ob→List gt→R}{q:Tm→List Ob→List eB→R}(hk:∀tm hp fs,k tm hp fs=q tm hp (fs.map cE)):∀(ops:List fc) (l:Tm) (hp:List Ob) (fs:List gt),(Pp out (fA l) ops).un call base t l hp fs k=xM call base ops (lZ l t) hp (fs.map cE) fun tm hp fs=>q (ni out tm) hp fs
 |[],l,hp,fs=>by
  show k ((Sq (fA l) out).un t l) hp fs.reverse=q (ni out (lZ l t)) hp (fs.map cE).reverse;rw[Lv,hk,List.map_reverse]
 |x::r,l,hp,fs=>by
  have step:xM call base (x::r) (lZ l t) hp (fs.map cE) (fun tm hp fs=>q (ni out tm) hp fs)=gdF x.gd (lZ l t) (fun k=>B3 call base x.op x.k (xX (lZ l t) x.as) hp k) hp fun v hp f=>xM call base r (put x.dst v (lZ l t)) hp (f::fs.map cE) fun tm hp fs=>q (ni out tm) hp fs:=rfl
  rw[step];unfold Pp;cases hd:x.dst with
  |none=>
   exact Uf _ _ _ _ _ _ fun v hp f=>Fv out call base t hk r l hp (f::fs)
  |some d=>
   exact Uf _ _ _ _ _ _ fun v hp f=>Fv out call base t hk r (.cons d v l) hp (f::fs)
def aia (nal:Nat)(ops:List fc)(prs:Option (List (Nat×Nat)))(out:List Nat):Bx Sem:=
 match prs with
 |none=>match nal with
  |0=>⟨fun c _ _ tm hp kn _ _=>(WQ out [] ops).un c hp.length tm .nil hp kn⟩
  |n+1=>⟨fun c _ _ tm hp kn _ _=>(WQ out [] ops).un c hp.length tm .nil (xF (n+1) hp) kn⟩
 |some ps=>⟨fun c _ _ tm hp kn _ _=>(Pp out [] ops).un c hp.length tm .nil (xF nal hp) [] fun tm hp fs=>wv (pJ fs ps) (kn tm hp) none⟩
theorem aej (nal:Nat)(ops:List fc)(prs:Option (List (Nat×Nat)))(out:List Nat):(aia nal ops prs out).un=aib nal ops prs out:=by
 funext c n m tm hp kn ke kr
 cases prs with
 |none=>
  cases nal with
  |zero=>exact CZ out c hp.length tm kn ops .nil hp
  |succ k=>exact CZ out c hp.length tm kn ops .nil (xF (k+1) hp)
 |some ps=>exact Fv out c hp.length tm (q:=fun tm hp fs=>wv (fX fs ps) (kn tm hp) none) (fun tm hp fs=>by rw[qI]) ops .nil (xF nal hp) []
def sL:Co→Bx Sem
 | .skip=>⟨aff⟩
 | .reg nal ops prs out=>aia nal ops prs out
 | .seq a b=>⟨fun c n m tm hp kn ke kr=>(sL a).un c n m tm hp (fun tm hp=>(sL b).un c n m tm hp kn ke kr) ke kr⟩
 | .cond x t e=>⟨fun c n m tm hp kn ke kr=>Tt (evA tm x) ((sL t).un c n m tm hp kn ke kr) ((sL e).un c n m tm hp kn ke kr)⟩
 | .block id b=>⟨fun c n m tm hp kn ke kr=>(sL b).un c n m tm hp kn (fun i tm hp=>wv (Nat.beq i id) (kn tm hp) (ke i tm hp)) kr⟩
 | .loop live b=>⟨fun c n m tm hp _ ke kr=>Ic m live (fun tm hp k=>(sL b).un c n m tm hp k ke kr) n tm hp⟩
 | .exit id=>⟨aeV id⟩
 | .ret=>⟨aic⟩
 | .gh g b=>⟨fun c n m tm hp kn ke kr=>ghK m g tm hp fun tm hp=>(sL b).un c n m tm hp kn ke kr⟩
theorem md:∀c:Co,(sL c).un=Wk c
 | .skip=>rfl
 | .reg nal ops prs out=>aej nal ops prs out
 | .seq a b=>by
  show(fun(c:aN) (n m:Nat) (tm:Tm) (hp:List Ob) (kn:K) (ke:Nat→K) (kr:K)=>(sL a).un c n m tm hp (fun tm hp=>(sL b).un c n m tm hp kn ke kr) ke kr)=_;rw[md a,md b];rfl
 | .cond x t e=>by
  show(fun(c:aN) (n m:Nat) (tm:Tm) (hp:List Ob) (kn:K) (ke:Nat→K) (kr:K)=>Tt (evA tm x) ((sL t).un c n m tm hp kn ke kr) ((sL e).un c n m tm hp kn ke kr))=_;rw[md t,md e];rfl
 | .block id b=>by
  show(fun(c:aN) (n m:Nat) (tm:Tm) (hp:List Ob) (kn:K) (ke:Nat→K) (kr:K)=>(sL b).un c n m tm hp kn (fun i tm hp=>wv (Nat.beq i id) (kn tm hp) (ke i tm hp)) kr)=_;rw[md b];rfl
 | .loop live b=>by
  show(fun(c:aN) (n m:Nat) (tm:Tm) (hp:List Ob) (_:K) (ke:Nat→K) (kr:K)=>Ic m live (fun tm hp k=>(sL b).un c n m tm hp k ke kr) n tm hp)=_;rw[md b];rfl
 | .exit _=>rfl
 | .ret=>rfl
 | .gh g b=>by
  show(fun(c:aN) (n m:Nat) (tm:Tm) (hp:List Ob) (kn:K) (ke:Nat→K) (kr:K)=>ghK m g tm hp fun tm hp=>(sL b).un c n m tm hp kn ke kr)=_;rw[md b];rfl
def ahS:Option Fn→Option Hn
 |some (.code x)=>some (.code (sL x.body).un x.res x.fz)
 |some (.prim g)=>some (.prim g)
 |some (.both g x)=>some (.both g (sL x.body).un x.res x.fz)
 |some (.any g)=>some (.any g)
 |none=>none
theorem WB (o:Option Fn):same (ahS o) o:=by
 cases o with
 |none=>trivial
 |some x=>cases x with
  |code x=>exact⟨(md _).symm,rfl,rfl⟩
  |prim g=>rfl
  |both g x=>exact⟨rfl,(md _).symm,rfl,rfl⟩
  |any g=>rfl
def afh (P:Program)(G:ci)(s:Cfg)(f:Nat):Option Hn:=ahS (abo P G s f)
theorem Xb (P:Program)(G:ci)(s:Cfg)(f:Nat):same (afh P G s f) (abo P G s f):=WB _
end
end Go.Ab
end
