import Derived.Test.YtbgddkffhndjcaaGreatDoorAl
import Derived.Test.YtbgddkffhndjcaaGreatDoorAwZ
import Derived.KernelRfl
set_option linter.all false
namespace Go.Ab
open Go
set_option maxRecDepth 100000
instance mvG:Mv:=⟨fun f=>bU f [123,135,147,156,159,160,161,162,133,131,136,134,132,122,107,145,146,104]⟩
noncomputable def jJ (c d:D)(k:R):R:= @ite _ (d=c) (Classical.propDecidable _) k none
theorem rj {c d:D}{k Z:R}(h:d=c→Le k Z):Le (jJ c d k) Z:=by
 unfold jJ;split
 ·rename_i e;exact h e
 ·exact Le.no _
theorem Ca (c:D)(k:R):jJ c c k=k:=by
 unfold jJ;exact if_pos rfl
structure dn where
 Types:List Da
def dn.e (t:dn):Da:= .agg [.slice 3 t.Types]
def dn.b (t:dn):Ob:= .box [.p (.slice 3 t.Types)]
noncomputable def cK (x:Da)(k:dn→R):R:=vg x fun r0=>ae r0 fun c0 r1=>gU 3 c0 fun v0=>aA r1<|k ⟨v0⟩
theorem rk {x:Da}{k:dn→R}{Z:R}(h:∀t:dn,x=t.e→Le (k t) Z):Le (cK x k) Z:=by
 unfold cK;refine gy fun _ q=>?_;subst q;refine ab fun _ _ q=>?_;subst q;refine bp fun _ q=>?_;subst q;refine aB fun q=>?_;subst q;exact h ⟨_⟩ rfl
structure bo where
 Kind:Int
 Text:List Nat
 Num:Int
 At:Int
def bo.e (t:bo):Da:= .agg [.int .i64 t.Kind,.str t.Text,.int .i64 t.Num,.int .i64 t.At]
def bo.b (t:bo):Ob:= .box [.p (.int .i64 t.Kind),.p (.str t.Text),.p (.int .i64 t.Num),.p (.int .i64 t.At)]
noncomputable def aL (x:Da)(k:bo→R):R:=vg x fun r0=>ae r0 fun c0 r1=>ar .i64 c0 fun v0=>ae r1 fun c1 r2=>cr c1 fun v1=>ae r2 fun c2 r3=>ar .i64 c2 fun v2=>ae r3 fun c3 r4=>ar .i64 c3 fun v3=>aA r4<|k ⟨v0,v1,v2,v3⟩
theorem iK {x:Da}{k:bo→R}{Z:R}(h:∀t:bo,x=t.e→Le (k t) Z):Le (aL x k) Z:=by
 unfold aL;refine gy fun _ q=>?_;subst q;refine ab fun _ _ q=>?_;subst q;refine ag fun _ q=>?_;subst q;refine ab fun _ _ q=>?_;subst q;refine bM fun _ q=>?_;subst q;refine ab fun _ _ q=>?_;subst q;refine ag fun _ q=>?_;subst q;refine ab fun _ _ q=>?_;subst q;refine ag fun _ q=>?_;subst q;refine aB fun q=>?_;subst q;exact h ⟨_,_,_,_⟩ rfl
structure bY where
 Name:List Nat
 Fields:List Da
 Methods:List Da
def bY.e (t:bY):Da:= .agg [.str t.Name,.slice 7 t.Fields,.slice 4 t.Methods]
def bY.b (t:bY):Ob:= .box [.p (.str t.Name),.p (.slice 7 t.Fields),.p (.slice 4 t.Methods)]
noncomputable def bR (x:Da)(k:bY→R):R:=vg x fun r0=>ae r0 fun c0 r1=>cr c0 fun v0=>ae r1 fun c1 r2=>gU 7 c1 fun v1=>ae r2 fun c2 r3=>gU 4 c2 fun v2=>aA r3<|k ⟨v0,v1,v2⟩
theorem dz {x:Da}{k:bY→R}{Z:R}(h:∀t:bY,x=t.e→Le (k t) Z):Le (bR x k) Z:=by
 unfold bR;refine gy fun _ q=>?_;subst q;refine ab fun _ _ q=>?_;subst q;refine bM fun _ q=>?_;subst q;refine ab fun _ _ q=>?_;subst q;refine bp fun _ q=>?_;subst q;refine ab fun _ _ q=>?_;subst q;refine bp fun _ q=>?_;subst q;refine aB fun q=>?_;subst q;exact h ⟨_,_,_⟩ rfl
structure ew where
 Kind:Int
 N:Int
 S:List Nat
 I:List Da
 L:List Da
def ew.e (t:ew):Da:= .agg [.int .i64 t.Kind,.int .i64 t.N,.str t.S,.slice 1 t.I,.slice 1 t.L]
def ew.b (t:ew):Ob:= .box [.p (.int .i64 t.Kind),.p (.int .i64 t.N),.p (.str t.S),.p (.slice 1 t.I),.p (.slice 1 t.L)]
noncomputable def cC (x:Da)(k:ew→R):R:=vg x fun r0=>ae r0 fun c0 r1=>ar .i64 c0 fun v0=>ae r1 fun c1 r2=>ar .i64 c1 fun v1=>ae r2 fun c2 r3=>cr c2 fun v2=>ae r3 fun c3 r4=>gU 1 c3 fun v3=>ae r4 fun c4 r5=>gU 1 c4 fun v4=>aA r5<|k ⟨v0,v1,v2,v3,v4⟩
theorem fJ {x:Da}{k:ew→R}{Z:R}(h:∀t:ew,x=t.e→Le (k t) Z):Le (cC x k) Z:=by
 unfold cC;refine gy fun _ q=>?_;subst q;refine ab fun _ _ q=>?_;subst q;refine ag fun _ q=>?_;subst q;refine ab fun _ _ q=>?_;subst q;refine ag fun _ q=>?_;subst q;refine ab fun _ _ q=>?_;subst q;refine bM fun _ q=>?_;subst q;refine ab fun _ _ q=>?_;subst q;refine bp fun _ q=>?_;subst q;refine ab fun _ _ q=>?_;subst q;refine bp fun _ q=>?_;subst q;refine aB fun q=>?_;subst q;exact h ⟨_,_,_,_,_⟩ rfl
structure eu where
 Name:List Nat
 Kind:Int
 Init_Kind:Int
 Init_N:Int
 Init_S:List Nat
 Init_I:List Da
 Init_L:List Da
def eu.e (t:eu):Da:= .agg [.str t.Name,.int .i64 t.Kind,.int .i64 t.Init_Kind,.int .i64 t.Init_N,.str t.Init_S,.slice 1 t.Init_I,.slice 1 t.Init_L]
def eu.b (t:eu):Ob:= .box [.p (.str t.Name),.p (.int .i64 t.Kind),.p (.int .i64 t.Init_Kind),.p (.int .i64 t.Init_N),.p (.str t.Init_S),.p (.slice 1 t.Init_I),.p (.slice 1 t.Init_L)]
noncomputable def dq (x:Da)(k:eu→R):R:=vg x fun r0=>ae r0 fun c0 r1=>cr c0 fun v0=>ae r1 fun c1 r2=>ar .i64 c1 fun v1=>ae r2 fun c2 r3=>ar .i64 c2 fun v2=>ae r3 fun c3 r4=>ar .i64 c3 fun v3=>ae r4 fun c4 r5=>cr c4 fun v4=>ae r5 fun c5 r6=>gU 1 c5 fun v5=>ae r6 fun c6 r7=>gU 1 c6 fun v6=>aA r7<|k ⟨v0,v1,v2,v3,v4,v5,v6⟩
theorem fH {x:Da}{k:eu→R}{Z:R}(h:∀t:eu,x=t.e→Le (k t) Z):Le (dq x k) Z:=by
 unfold dq;refine gy fun _ q=>?_;subst q;refine ab fun _ _ q=>?_;subst q;refine bM fun _ q=>?_;subst q;refine ab fun _ _ q=>?_;subst q;refine ag fun _ q=>?_;subst q;refine ab fun _ _ q=>?_;subst q;refine ag fun _ q=>?_;subst q;refine ab fun _ _ q=>?_;subst q;refine ag fun _ q=>?_;subst q;refine ab fun _ _ q=>?_;subst q;refine bM fun _ q=>?_;subst q;refine ab fun _ _ q=>?_;subst q;refine bp fun _ q=>?_;subst q;refine ab fun _ _ q=>?_;subst q;refine bp fun _ q=>?_;subst q;refine aB fun q=>?_;subst q;exact h ⟨_,_,_,_,_,_,_⟩ rfl
structure dw where
 Name:List Nat
 Params:List Da
 Result:Int
 Nodes:List Da
def dw.e (t:dw):Da:= .agg [.str t.Name,.slice 2 t.Params,.int .i64 t.Result,.slice 8 t.Nodes]
def dw.b (t:dw):Ob:= .box [.p (.str t.Name),.p (.slice 2 t.Params),.p (.int .i64 t.Result),.p (.slice 8 t.Nodes)]
noncomputable def fI (x:Da)(k:dw→R):R:=vg x fun r0=>ae r0 fun c0 r1=>cr c0 fun v0=>ae r1 fun c1 r2=>gU 2 c1 fun v1=>ae r2 fun c2 r3=>ar .i64 c2 fun v2=>ae r3 fun c3 r4=>gU 8 c3 fun v3=>aA r4<|k ⟨v0,v1,v2,v3⟩
theorem tf {x:Da}{k:dw→R}{Z:R}(h:∀t:dw,x=t.e→Le (k t) Z):Le (fI x k) Z:=by
 unfold fI;refine gy fun _ q=>?_;subst q;refine ab fun _ _ q=>?_;subst q;refine bM fun _ q=>?_;subst q;refine ab fun _ _ q=>?_;subst q;refine bp fun _ q=>?_;subst q;refine ab fun _ _ q=>?_;subst q;refine ag fun _ q=>?_;subst q;refine ab fun _ _ q=>?_;subst q;refine bp fun _ q=>?_;subst q;refine aB fun q=>?_;subst q;exact h ⟨_,_,_,_⟩ rfl
structure b6 where
 Op:Int
 Name:List Nat
 Value_Kind:Int
 Value_N:Int
 Value_S:List Nat
 Value_I:List Da
 Value_L:List Da
 Kids:List Da
def b6.e (t:b6):Da:= .agg [.int .i64 t.Op,.str t.Name,.int .i64 t.Value_Kind,.int .i64 t.Value_N,.str t.Value_S,.slice 1 t.Value_I,.slice 1 t.Value_L,.slice 1 t.Kids]
def b6.b (t:b6):Ob:= .box [.p (.int .i64 t.Op),.p (.str t.Name),.p (.int .i64 t.Value_Kind),.p (.int .i64 t.Value_N),.p (.str t.Value_S),.p (.slice 1 t.Value_I),.p (.slice 1 t.Value_L),.p (.slice 1 t.Kids)]
noncomputable def ei (x:Da)(k:b6→R):R:=vg x fun r0=>ae r0 fun c0 r1=>ar .i64 c0 fun v0=>ae r1 fun c1 r2=>cr c1 fun v1=>ae r2 fun c2 r3=>ar .i64 c2 fun v2=>ae r3 fun c3 r4=>ar .i64 c3 fun v3=>ae r4 fun c4 r5=>cr c4 fun v4=>ae r5 fun c5 r6=>gU 1 c5 fun v5=>ae r6 fun c6 r7=>gU 1 c6 fun v6=>ae r7 fun c7 r8=>gU 1 c7 fun v7=>aA r8<|k ⟨v0,v1,v2,v3,v4,v5,v6,v7⟩
theorem gz {x:Da}{k:b6→R}{Z:R}(h:∀t:b6,x=t.e→Le (k t) Z):Le (ei x k) Z:=by
 unfold ei;refine gy fun _ q=>?_;subst q;refine ab fun _ _ q=>?_;subst q;refine ag fun _ q=>?_;subst q;refine ab fun _ _ q=>?_;subst q;refine bM fun _ q=>?_;subst q;refine ab fun _ _ q=>?_;subst q;refine ag fun _ q=>?_;subst q;refine ab fun _ _ q=>?_;subst q;refine ag fun _ q=>?_;subst q;refine ab fun _ _ q=>?_;subst q;refine bM fun _ q=>?_;subst q;refine ab fun _ _ q=>?_;subst q;refine bp fun _ q=>?_;subst q;refine ab fun _ _ q=>?_;subst q;refine bp fun _ q=>?_;subst q;refine ab fun _ _ q=>?_;subst q;refine bp fun _ q=>?_;subst q;refine aB fun q=>?_;subst q;exact h ⟨_,_,_,_,_,_,_,_⟩ rfl
structure fi where
 Name:List Nat
 Kind:Int
def fi.e (t:fi):Da:= .agg [.str t.Name,.int .i64 t.Kind]
def fi.b (t:fi):Ob:= .box [.p (.str t.Name),.p (.int .i64 t.Kind)]
noncomputable def gO (x:Da)(k:fi→R):R:=vg x fun r0=>ae r0 fun c0 r1=>cr c0 fun v0=>ae r1 fun c1 r2=>ar .i64 c1 fun v1=>aA r2<|k ⟨v0,v1⟩
theorem iJ {x:Da}{k:fi→R}{Z:R}(h:∀t:fi,x=t.e→Le (k t) Z):Le (gO x k) Z:=by
 unfold gO;refine gy fun _ q=>?_;subst q;refine ab fun _ _ q=>?_;subst q;refine bM fun _ q=>?_;subst q;refine ab fun _ _ q=>?_;subst q;refine ag fun _ q=>?_;subst q;refine aB fun q=>?_;subst q;exact h ⟨_,_⟩ rfl
structure bi where
 tk:List Da
 ps:Int
 en:Int
 aT:Int
 er:Int
 ne:Int
 tt:Int
 nd:Nat
 no:List Da
def bi.hp (c:bi):List Ob:=[.box [.p (.slice 4 c.tk),.p (.int .i64 c.ps),.p (.int .i64 c.en),.p (.int .i64 c.aT),.p (.int .i64 c.er),.p (.int .i64 c.ne),.p (.int .i64 c.tt),.arr 1 0 c.nd 8],.arr c.no]
noncomputable def av (o:List Ob)(k:bi→R):R:=ae o fun a1 r2=>cn a1 fun l3=>ae l3 fun d4 l5=>dP d4 fun x6=>gU 4 x6 fun tk=>ae l5 fun d7 l8=>dP d7 fun x9=>ar .i64 x9 fun ps=>ae l8 fun d10 l11=>dP d10 fun x12=>ar .i64 x12 fun en=>ae l11 fun d13 l14=>dP d13 fun x15=>ar .i64 x15 fun aT=>ae l14 fun d16 l17=>dP d16 fun x18=>ar .i64 x18 fun er=>ae l17 fun d19 l20=>dP d19 fun x21=>ar .i64 x21 fun ne=>ae l20 fun d22 l23=>dP d22 fun x24=>ar .i64 x24 fun tt=>ae l23 fun d25 l26=>hU 1 8 d25 fun nd=>aA l26<|ae r2 fun a27 r28=>gp a27 fun no=>aA r28<|k ⟨tk,ps,en,aT,er,ne,tt,nd,no⟩
theorem dH {o:List Ob}{k:bi→R}{Z:R}(h:∀c:bi,o=c.hp→Le (k c) Z):Le (av o k) Z:=by
 unfold av;refine ab fun _ _ q=>?_;subst q;refine aZ fun _ q=>?_;subst q;refine ab fun _ _ q=>?_;subst q;refine aq fun _ q=>?_;subst q;refine bp fun _ q=>?_;subst q;refine ab fun _ _ q=>?_;subst q;refine aq fun _ q=>?_;subst q;refine ag fun _ q=>?_;subst q;refine ab fun _ _ q=>?_;subst q;refine aq fun _ q=>?_;subst q;refine ag fun _ q=>?_;subst q;refine ab fun _ _ q=>?_;subst q;refine aq fun _ q=>?_;subst q;refine ag fun _ q=>?_;subst q;refine ab fun _ _ q=>?_;subst q;refine aq fun _ q=>?_;subst q;refine ag fun _ q=>?_;subst q;refine ab fun _ _ q=>?_;subst q;refine aq fun _ q=>?_;subst q;refine ag fun _ q=>?_;subst q;refine ab fun _ _ q=>?_;subst q;refine aq fun _ q=>?_;subst q;refine ag fun _ q=>?_;subst q;refine ab fun _ _ q=>?_;subst q;refine bL fun _ q=>?_;subst q;refine aB fun q=>?_;subst q;refine ab fun _ _ q=>?_;subst q;refine bO fun _ q=>?_;subst q;refine aB fun q=>?_;subst q;exact h ⟨_,_,_,_,_,_,_,_,_⟩ rfl
noncomputable def wH:Rd (List Ob) bi:=⟨bi.hp,av,fun _ _ _ H=>dH fun t q=>by subst q;exact H t⟩
structure bw where
 tk:List Da
 ps:Int
 en:Int
 aT:Int
 er:Int
 ne:Int
 tt:Int
 nd:List Da
def bw.hp (c:bw):List Ob:=[.box [.p (.slice 4 c.tk),.p (.int .i64 c.ps),.p (.int .i64 c.en),.p (.int .i64 c.aT),.p (.int .i64 c.er),.p (.int .i64 c.ne),.p (.int .i64 c.tt),.p (.slice 8 c.nd)]]
noncomputable def aK (o:List Ob)(k:bw→R):R:=ae o fun a1 r2=>cn a1 fun l3=>ae l3 fun d4 l5=>dP d4 fun x6=>gU 4 x6 fun tk=>ae l5 fun d7 l8=>dP d7 fun x9=>ar .i64 x9 fun ps=>ae l8 fun d10 l11=>dP d10 fun x12=>ar .i64 x12 fun en=>ae l11 fun d13 l14=>dP d13 fun x15=>ar .i64 x15 fun aT=>ae l14 fun d16 l17=>dP d16 fun x18=>ar .i64 x18 fun er=>ae l17 fun d19 l20=>dP d19 fun x21=>ar .i64 x21 fun ne=>ae l20 fun d22 l23=>dP d22 fun x24=>ar .i64 x24 fun tt=>ae l23 fun d25 l26=>dP d25 fun x27=>gU 8 x27 fun nd=>aA l26<|aA r2<|k ⟨tk,ps,en,aT,er,ne,tt,nd⟩
theorem fG {o:List Ob}{k:bw→R}{Z:R}(h:∀c:bw,o=c.hp→Le (k c) Z):Le (aK o k) Z:=by
 unfold aK;refine ab fun _ _ q=>?_;subst q;refine aZ fun _ q=>?_;subst q;refine ab fun _ _ q=>?_;subst q;refine aq fun _ q=>?_;subst q;refine bp fun _ q=>?_;subst q;refine ab fun _ _ q=>?_;subst q;refine aq fun _ q=>?_;subst q;refine ag fun _ q=>?_;subst q;refine ab fun _ _ q=>?_;subst q;refine aq fun _ q=>?_;subst q;refine ag fun _ q=>?_;subst q;refine ab fun _ _ q=>?_;subst q;refine aq fun _ q=>?_;subst q;refine ag fun _ q=>?_;subst q;refine ab fun _ _ q=>?_;subst q;refine aq fun _ q=>?_;subst q;refine ag fun _ q=>?_;subst q;refine ab fun _ _ q=>?_;subst q;refine aq fun _ q=>?_;subst q;refine ag fun _ q=>?_;subst q;refine ab fun _ _ q=>?_;subst q;refine aq fun _ q=>?_;subst q;refine ag fun _ q=>?_;subst q;refine ab fun _ _ q=>?_;subst q;refine aq fun _ q=>?_;subst q;refine bp fun _ q=>?_;subst q;refine aB fun q=>?_;subst q;refine aB fun q=>?_;subst q;exact h ⟨_,_,_,_,_,_,_,_⟩ rfl
noncomputable def Uc:Rd (List Ob) bw:=⟨bw.hp,aK,fun _ _ _ H=>fG fun t q=>by subst q;exact H t⟩
structure xm where
 tk:List Da
 ps:Int
 en:Int
 aT:Int
 er:Int
 ne:Int
 tt:Int
 nd:Nat
 ou:Nat
 no:List Da
 ol:List Da
def xm.hp (c:xm):List Ob:=[.box [.p (.slice 4 c.tk),.p (.int .i64 c.ps),.p (.int .i64 c.en),.p (.int .i64 c.aT),.p (.int .i64 c.er),.p (.int .i64 c.ne),.p (.int .i64 c.tt),.arr 3 0 c.nd 8],.box [.arr 4 0 c.ou 1],.box [.box 0 0],.arr c.no,.arr c.ol]
noncomputable def Cd (o:List Ob)(k:xm→R):R:=ae o fun a1 r2=>cn a1 fun l3=>ae l3 fun d4 l5=>dP d4 fun x6=>gU 4 x6 fun tk=>ae l5 fun d7 l8=>dP d7 fun x9=>ar .i64 x9 fun ps=>ae l8 fun d10 l11=>dP d10 fun x12=>ar .i64 x12 fun en=>ae l11 fun d13 l14=>dP d13 fun x15=>ar .i64 x15 fun aT=>ae l14 fun d16 l17=>dP d16 fun x18=>ar .i64 x18 fun er=>ae l17 fun d19 l20=>dP d19 fun x21=>ar .i64 x21 fun ne=>ae l20 fun d22 l23=>dP d22 fun x24=>ar .i64 x24 fun tt=>ae l23 fun d25 l26=>hU 3 8 d25 fun nd=>aA l26<|ae r2 fun a27 r28=>cn a27 fun l29=>ae l29 fun d30 l31=>hU 4 1 d30 fun ou=>aA l31<|ae r28 fun a32 r33=>cn a32 fun l34=>ae l34 fun d35 l36=>mm 0 0 d35<|aA l36<|ae r33 fun a37 r38=>gp a37 fun no=>ae r38 fun a39 r40=>gp a39 fun ol=>aA r40<|k ⟨tk,ps,en,aT,er,ne,tt,nd,ou,no,ol⟩
theorem LQ {o:List Ob}{k:xm→R}{Z:R}(h:∀c:xm,o=c.hp→Le (k c) Z):Le (Cd o k) Z:=by
 unfold Cd;refine ab fun _ _ q=>?_;subst q;refine aZ fun _ q=>?_;subst q;refine ab fun _ _ q=>?_;subst q;refine aq fun _ q=>?_;subst q;refine bp fun _ q=>?_;subst q;refine ab fun _ _ q=>?_;subst q;refine aq fun _ q=>?_;subst q;refine ag fun _ q=>?_;subst q;refine ab fun _ _ q=>?_;subst q;refine aq fun _ q=>?_;subst q;refine ag fun _ q=>?_;subst q;refine ab fun _ _ q=>?_;subst q;refine aq fun _ q=>?_;subst q;refine ag fun _ q=>?_;subst q;refine ab fun _ _ q=>?_;subst q;refine aq fun _ q=>?_;subst q;refine ag fun _ q=>?_;subst q;refine ab fun _ _ q=>?_;subst q;refine aq fun _ q=>?_;subst q;refine ag fun _ q=>?_;subst q;refine ab fun _ _ q=>?_;subst q;refine aq fun _ q=>?_;subst q;refine ag fun _ q=>?_;subst q;refine ab fun _ _ q=>?_;subst q;refine bL fun _ q=>?_;subst q;refine aB fun q=>?_;subst q;refine ab fun _ _ q=>?_;subst q;refine aZ fun _ q=>?_;subst q;refine ab fun _ _ q=>?_;subst q;refine bL fun _ q=>?_;subst q;refine aB fun q=>?_;subst q;refine ab fun _ _ q=>?_;subst q;refine aZ fun _ q=>?_;subst q;refine ab fun _ _ q=>?_;subst q;refine cP fun q=>?_;subst q;refine aB fun q=>?_;subst q;refine ab fun _ _ q=>?_;subst q;refine bO fun _ q=>?_;subst q;refine ab fun _ _ q=>?_;subst q;refine bO fun _ q=>?_;subst q;refine aB fun q=>?_;subst q;exact h ⟨_,_,_,_,_,_,_,_,_,_,_⟩ rfl
structure Rp where
 ou:Nat
 ol:List Da
 tk:List Da
 ps:Int
 en:Int
 aT:Int
 er:Int
 ne:Int
 tt:Int
 nd:Nat
 no:List Da
def Rp.hp (c:Rp):List Ob:=[.box [.arr 1 0 c.ou 1],.arr c.ol,.box [.box 3 0],.box [.p (.slice 4 c.tk),.p (.int .i64 c.ps),.p (.int .i64 c.en),.p (.int .i64 c.aT),.p (.int .i64 c.er),.p (.int .i64 c.ne),.p (.int .i64 c.tt),.arr 4 0 c.nd 8],.arr c.no]
structure Oe where
 ou:Nat
 tk:List Da
 ps:Int
 en:Int
 aT:Int
 er:Int
 ne:Int
 tt:Int
 nd:Nat
 ol:List Da
 no:List Da
def Oe.hp (c:Oe):List Ob:=[.box [.arr 5 0 c.ou 1],.dead,.box [.box 3 0],.box [.p (.slice 4 c.tk),.p (.int .i64 c.ps),.p (.int .i64 c.en),.p (.int .i64 c.aT),.p (.int .i64 c.er),.p (.int .i64 c.ne),.p (.int .i64 c.tt),.arr 6 0 c.nd 8],.dead,.arr c.ol,.arr c.no]
noncomputable def Cb (o:List Ob)(k:Oe→R):R:=ae o fun a1 r2=>cn a1 fun l3=>ae l3 fun d4 l5=>hU 5 1 d4 fun ou=>aA l5<|ae r2 fun a6 r7=>qf a6<|ae r7 fun a8 r9=>cn a8 fun l10=>ae l10 fun d11 l12=>mm 3 0 d11<|aA l12<|ae r9 fun a13 r14=>cn a13 fun l15=>ae l15 fun d16 l17=>dP d16 fun x18=>gU 4 x18 fun tk=>ae l17 fun d19 l20=>dP d19 fun x21=>ar .i64 x21 fun ps=>ae l20 fun d22 l23=>dP d22 fun x24=>ar .i64 x24 fun en=>ae l23 fun d25 l26=>dP d25 fun x27=>ar .i64 x27 fun aT=>ae l26 fun d28 l29=>dP d28 fun x30=>ar .i64 x30 fun er=>ae l29 fun d31 l32=>dP d31 fun x33=>ar .i64 x33 fun ne=>ae l32 fun d34 l35=>dP d34 fun x36=>ar .i64 x36 fun tt=>ae l35 fun d37 l38=>hU 6 8 d37 fun nd=>aA l38<|ae r14 fun a39 r40=>qf a39<|ae r40 fun a41 r42=>gp a41 fun ol=>ae r42 fun a43 r44=>gp a43 fun no=>aA r44<|k ⟨ou,tk,ps,en,aT,er,ne,tt,nd,ol,no⟩
theorem LO {o:List Ob}{k:Oe→R}{Z:R}(h:∀c:Oe,o=c.hp→Le (k c) Z):Le (Cb o k) Z:=by
 unfold Cb;refine ab fun _ _ q=>?_;subst q;refine aZ fun _ q=>?_;subst q;refine ab fun _ _ q=>?_;subst q;refine bL fun _ q=>?_;subst q;refine aB fun q=>?_;subst q;refine ab fun _ _ q=>?_;subst q;refine gQ fun q=>?_;subst q;refine ab fun _ _ q=>?_;subst q;refine aZ fun _ q=>?_;subst q;refine ab fun _ _ q=>?_;subst q;refine cP fun q=>?_;subst q;refine aB fun q=>?_;subst q;refine ab fun _ _ q=>?_;subst q;refine aZ fun _ q=>?_;subst q;refine ab fun _ _ q=>?_;subst q;refine aq fun _ q=>?_;subst q;refine bp fun _ q=>?_;subst q;refine ab fun _ _ q=>?_;subst q;refine aq fun _ q=>?_;subst q;refine ag fun _ q=>?_;subst q;refine ab fun _ _ q=>?_;subst q;refine aq fun _ q=>?_;subst q;refine ag fun _ q=>?_;subst q;refine ab fun _ _ q=>?_;subst q;refine aq fun _ q=>?_;subst q;refine ag fun _ q=>?_;subst q;refine ab fun _ _ q=>?_;subst q;refine aq fun _ q=>?_;subst q;refine ag fun _ q=>?_;subst q;refine ab fun _ _ q=>?_;subst q;refine aq fun _ q=>?_;subst q;refine ag fun _ q=>?_;subst q;refine ab fun _ _ q=>?_;subst q;refine aq fun _ q=>?_;subst q;refine ag fun _ q=>?_;subst q;refine ab fun _ _ q=>?_;subst q;refine bL fun _ q=>?_;subst q;refine aB fun q=>?_;subst q;refine ab fun _ _ q=>?_;subst q;refine gQ fun q=>?_;subst q;refine ab fun _ _ q=>?_;subst q;refine bO fun _ q=>?_;subst q;refine ab fun _ _ q=>?_;subst q;refine bO fun _ q=>?_;subst q;refine aB fun q=>?_;subst q;exact h ⟨_,_,_,_,_,_,_,_,_,_,_⟩ rfl
structure DM where
 tk:List Da
 ps:Int
 en:Int
 aT:Int
 er:Int
 ne:Int
 tt:Int
def DM.hp (c:DM):List Ob:=[.box [.p (.slice 4 c.tk),.p (.int .i64 c.ps),.p (.int .i64 c.en),.p (.int .i64 c.aT),.p (.int .i64 c.er),.p (.int .i64 c.ne),.p (.int .i64 c.tt),.sl .nil 8 []]]
structure Vl where
 tk:List Da
 ps:Int
 en:Int
 aT:Int
 er:Int
 ne:Int
 tt:Int
 nd:Nat
 no:List Da
def Vl.hp (c:Vl):List Ob:=[.box [.p (.slice 4 c.tk),.p (.int .i64 c.ps),.p (.int .i64 c.en),.p (.int .i64 c.aT),.p (.int .i64 c.er),.p (.int .i64 c.ne),.p (.int .i64 c.tt),.arr 1 0 c.nd 8],.fz c.no]
structure HP where
 tk:List Da
 ps:Int
 en:Int
 aT:Int
 er:Int
 ne:Int
 tt:Int
 nd:Nat
 vk:Int
 vn:Int
 vs:List Nat
 vi:Nat
 no:List Da
 il:List Da
def HP.hp (c:HP):List Ob:=[.box [.p (.slice 4 c.tk),.p (.int .i64 c.ps),.p (.int .i64 c.en),.p (.int .i64 c.aT),.p (.int .i64 c.er),.p (.int .i64 c.ne),.p (.int .i64 c.tt),.arr 3 0 c.nd 8],.box [.box 0 0],.box [.p (.int .i64 c.vk),.p (.int .i64 c.vn),.p (.str c.vs),.arr 4 0 c.vi 1,.sl .nil 1 []],.arr c.no,.arr c.il]
noncomputable def zV (o:List Ob)(k:HP→R):R:=ae o fun a1 r2=>cn a1 fun l3=>ae l3 fun d4 l5=>dP d4 fun x6=>gU 4 x6 fun tk=>ae l5 fun d7 l8=>dP d7 fun x9=>ar .i64 x9 fun ps=>ae l8 fun d10 l11=>dP d10 fun x12=>ar .i64 x12 fun en=>ae l11 fun d13 l14=>dP d13 fun x15=>ar .i64 x15 fun aT=>ae l14 fun d16 l17=>dP d16 fun x18=>ar .i64 x18 fun er=>ae l17 fun d19 l20=>dP d19 fun x21=>ar .i64 x21 fun ne=>ae l20 fun d22 l23=>dP d22 fun x24=>ar .i64 x24 fun tt=>ae l23 fun d25 l26=>hU 3 8 d25 fun nd=>aA l26<|ae r2 fun a27 r28=>cn a27 fun l29=>ae l29 fun d30 l31=>mm 0 0 d30<|aA l31<|ae r28 fun a32 r33=>cn a32 fun l34=>ae l34 fun d35 l36=>dP d35 fun x37=>ar .i64 x37 fun vk=>ae l36 fun d38 l39=>dP d38 fun x40=>ar .i64 x40 fun vn=>ae l39 fun d41 l42=>dP d41 fun x43=>cr x43 fun vs=>ae l42 fun d44 l45=>hU 4 1 d44 fun vi=>ae l45 fun d46 l47=>Gs 1 d46<|aA l47<|ae r33 fun a48 r49=>gp a48 fun no=>ae r49 fun a50 r51=>gp a50 fun il=>aA r51<|k ⟨tk,ps,en,aT,er,ne,tt,nd,vk,vn,vs,vi,no,il⟩
theorem Iw {o:List Ob}{k:HP→R}{Z:R}(h:∀c:HP,o=c.hp→Le (k c) Z):Le (zV o k) Z:=by
 unfold zV;refine ab fun _ _ q=>?_;subst q;refine aZ fun _ q=>?_;subst q;refine ab fun _ _ q=>?_;subst q;refine aq fun _ q=>?_;subst q;refine bp fun _ q=>?_;subst q;refine ab fun _ _ q=>?_;subst q;refine aq fun _ q=>?_;subst q;refine ag fun _ q=>?_;subst q;refine ab fun _ _ q=>?_;subst q;refine aq fun _ q=>?_;subst q;refine ag fun _ q=>?_;subst q;refine ab fun _ _ q=>?_;subst q;refine aq fun _ q=>?_;subst q;refine ag fun _ q=>?_;subst q;refine ab fun _ _ q=>?_;subst q;refine aq fun _ q=>?_;subst q;refine ag fun _ q=>?_;subst q;refine ab fun _ _ q=>?_;subst q;refine aq fun _ q=>?_;subst q;refine ag fun _ q=>?_;subst q;refine ab fun _ _ q=>?_;subst q;refine aq fun _ q=>?_;subst q;refine ag fun _ q=>?_;subst q;refine ab fun _ _ q=>?_;subst q;refine bL fun _ q=>?_;subst q;refine aB fun q=>?_;subst q;refine ab fun _ _ q=>?_;subst q;refine aZ fun _ q=>?_;subst q;refine ab fun _ _ q=>?_;subst q;refine cP fun q=>?_;subst q;refine aB fun q=>?_;subst q;refine ab fun _ _ q=>?_;subst q;refine aZ fun _ q=>?_;subst q;refine ab fun _ _ q=>?_;subst q;refine aq fun _ q=>?_;subst q;refine ag fun _ q=>?_;subst q;refine ab fun _ _ q=>?_;subst q;refine aq fun _ q=>?_;subst q;refine ag fun _ q=>?_;subst q;refine ab fun _ _ q=>?_;subst q;refine aq fun _ q=>?_;subst q;refine bM fun _ q=>?_;subst q;refine ab fun _ _ q=>?_;subst q;refine bL fun _ q=>?_;subst q;refine ab fun _ _ q=>?_;subst q;refine gX fun q=>?_;subst q;refine aB fun q=>?_;subst q;refine ab fun _ _ q=>?_;subst q;refine bO fun _ q=>?_;subst q;refine ab fun _ _ q=>?_;subst q;refine bO fun _ q=>?_;subst q;refine aB fun q=>?_;subst q;exact h ⟨_,_,_,_,_,_,_,_,_,_,_,_,_,_⟩ rfl
structure HQ where
 tk:List Da
 ps:Int
 en:Int
 aT:Int
 er:Int
 ne:Int
 tt:Int
 nd:Nat
 vk:Int
 vn:Int
 vs:List Nat
 vl:Nat
 no:List Da
 il:List Da
def HQ.hp (c:HQ):List Ob:=[.box [.p (.slice 4 c.tk),.p (.int .i64 c.ps),.p (.int .i64 c.en),.p (.int .i64 c.aT),.p (.int .i64 c.er),.p (.int .i64 c.ne),.p (.int .i64 c.tt),.arr 3 0 c.nd 8],.box [.box 0 0],.box [.p (.int .i64 c.vk),.p (.int .i64 c.vn),.p (.str c.vs),.sl .nil 1 [],.arr 4 0 c.vl 1],.arr c.no,.arr c.il]
noncomputable def zW (o:List Ob)(k:HQ→R):R:=ae o fun a1 r2=>cn a1 fun l3=>ae l3 fun d4 l5=>dP d4 fun x6=>gU 4 x6 fun tk=>ae l5 fun d7 l8=>dP d7 fun x9=>ar .i64 x9 fun ps=>ae l8 fun d10 l11=>dP d10 fun x12=>ar .i64 x12 fun en=>ae l11 fun d13 l14=>dP d13 fun x15=>ar .i64 x15 fun aT=>ae l14 fun d16 l17=>dP d16 fun x18=>ar .i64 x18 fun er=>ae l17 fun d19 l20=>dP d19 fun x21=>ar .i64 x21 fun ne=>ae l20 fun d22 l23=>dP d22 fun x24=>ar .i64 x24 fun tt=>ae l23 fun d25 l26=>hU 3 8 d25 fun nd=>aA l26<|ae r2 fun a27 r28=>cn a27 fun l29=>ae l29 fun d30 l31=>mm 0 0 d30<|aA l31<|ae r28 fun a32 r33=>cn a32 fun l34=>ae l34 fun d35 l36=>dP d35 fun x37=>ar .i64 x37 fun vk=>ae l36 fun d38 l39=>dP d38 fun x40=>ar .i64 x40 fun vn=>ae l39 fun d41 l42=>dP d41 fun x43=>cr x43 fun vs=>ae l42 fun d44 l45=>Gs 1 d44<|ae l45 fun d46 l47=>hU 4 1 d46 fun vl=>aA l47<|ae r33 fun a48 r49=>gp a48 fun no=>ae r49 fun a50 r51=>gp a50 fun il=>aA r51<|k ⟨tk,ps,en,aT,er,ne,tt,nd,vk,vn,vs,vl,no,il⟩
theorem Iy {o:List Ob}{k:HQ→R}{Z:R}(h:∀c:HQ,o=c.hp→Le (k c) Z):Le (zW o k) Z:=by
 unfold zW;refine ab fun _ _ q=>?_;subst q;refine aZ fun _ q=>?_;subst q;refine ab fun _ _ q=>?_;subst q;refine aq fun _ q=>?_;subst q;refine bp fun _ q=>?_;subst q;refine ab fun _ _ q=>?_;subst q;refine aq fun _ q=>?_;subst q;refine ag fun _ q=>?_;subst q;refine ab fun _ _ q=>?_;subst q;refine aq fun _ q=>?_;subst q;refine ag fun _ q=>?_;subst q;refine ab fun _ _ q=>?_;subst q;refine aq fun _ q=>?_;subst q;refine ag fun _ q=>?_;subst q;refine ab fun _ _ q=>?_;subst q;refine aq fun _ q=>?_;subst q;refine ag fun _ q=>?_;subst q;refine ab fun _ _ q=>?_;subst q;refine aq fun _ q=>?_;subst q;refine ag fun _ q=>?_;subst q;refine ab fun _ _ q=>?_;subst q;refine aq fun _ q=>?_;subst q;refine ag fun _ q=>?_;subst q;refine ab fun _ _ q=>?_;subst q;refine bL fun _ q=>?_;subst q;refine aB fun q=>?_;subst q;refine ab fun _ _ q=>?_;subst q;refine aZ fun _ q=>?_;subst q;refine ab fun _ _ q=>?_;subst q;refine cP fun q=>?_;subst q;refine aB fun q=>?_;subst q;refine ab fun _ _ q=>?_;subst q;refine aZ fun _ q=>?_;subst q;refine ab fun _ _ q=>?_;subst q;refine aq fun _ q=>?_;subst q;refine ag fun _ q=>?_;subst q;refine ab fun _ _ q=>?_;subst q;refine aq fun _ q=>?_;subst q;refine ag fun _ q=>?_;subst q;refine ab fun _ _ q=>?_;subst q;refine aq fun _ q=>?_;subst q;refine bM fun _ q=>?_;subst q;refine ab fun _ _ q=>?_;subst q;refine gX fun q=>?_;subst q;refine ab fun _ _ q=>?_;subst q;refine bL fun _ q=>?_;subst q;refine aB fun q=>?_;subst q;refine ab fun _ _ q=>?_;subst q;refine bO fun _ q=>?_;subst q;refine ab fun _ _ q=>?_;subst q;refine bO fun _ q=>?_;subst q;refine aB fun q=>?_;subst q;exact h ⟨_,_,_,_,_,_,_,_,_,_,_,_,_,_⟩ rfl
structure jH where
 tk:List Da
 ps:Int
 en:Int
 aT:Int
 er:Int
 ne:Int
 tt:Int
 nd:List Da
 vk:Int
 vn:Int
 vs:List Nat
 vi:Nat
 il:List Da
def jH.hp (c:jH):List Ob:=[.box [.p (.slice 4 c.tk),.p (.int .i64 c.ps),.p (.int .i64 c.en),.p (.int .i64 c.aT),.p (.int .i64 c.er),.p (.int .i64 c.ne),.p (.int .i64 c.tt),.p (.slice 8 c.nd)],.box [.box 0 0],.box [.p (.int .i64 c.vk),.p (.int .i64 c.vn),.p (.str c.vs),.arr 3 0 c.vi 1,.sl .nil 1 []],.arr c.il]
noncomputable def vj (o:List Ob)(k:jH→R):R:=ae o fun a1 r2=>cn a1 fun l3=>ae l3 fun d4 l5=>dP d4 fun x6=>gU 4 x6 fun tk=>ae l5 fun d7 l8=>dP d7 fun x9=>ar .i64 x9 fun ps=>ae l8 fun d10 l11=>dP d10 fun x12=>ar .i64 x12 fun en=>ae l11 fun d13 l14=>dP d13 fun x15=>ar .i64 x15 fun aT=>ae l14 fun d16 l17=>dP d16 fun x18=>ar .i64 x18 fun er=>ae l17 fun d19 l20=>dP d19 fun x21=>ar .i64 x21 fun ne=>ae l20 fun d22 l23=>dP d22 fun x24=>ar .i64 x24 fun tt=>ae l23 fun d25 l26=>dP d25 fun x27=>gU 8 x27 fun nd=>aA l26<|ae r2 fun a28 r29=>cn a28 fun l30=>ae l30 fun d31 l32=>mm 0 0 d31<|aA l32<|ae r29 fun a33 r34=>cn a33 fun l35=>ae l35 fun d36 l37=>dP d36 fun x38=>ar .i64 x38 fun vk=>ae l37 fun d39 l40=>dP d39 fun x41=>ar .i64 x41 fun vn=>ae l40 fun d42 l43=>dP d42 fun x44=>cr x44 fun vs=>ae l43 fun d45 l46=>hU 3 1 d45 fun vi=>ae l46 fun d47 l48=>Gs 1 d47<|aA l48<|ae r34 fun a49 r50=>gp a49 fun il=>aA r50<|k ⟨tk,ps,en,aT,er,ne,tt,nd,vk,vn,vs,vi,il⟩
theorem Iz {o:List Ob}{k:jH→R}{Z:R}(h:∀c:jH,o=c.hp→Le (k c) Z):Le (vj o k) Z:=by
 unfold vj;refine ab fun _ _ q=>?_;subst q;refine aZ fun _ q=>?_;subst q;refine ab fun _ _ q=>?_;subst q;refine aq fun _ q=>?_;subst q;refine bp fun _ q=>?_;subst q;refine ab fun _ _ q=>?_;subst q;refine aq fun _ q=>?_;subst q;refine ag fun _ q=>?_;subst q;refine ab fun _ _ q=>?_;subst q;refine aq fun _ q=>?_;subst q;refine ag fun _ q=>?_;subst q;refine ab fun _ _ q=>?_;subst q;refine aq fun _ q=>?_;subst q;refine ag fun _ q=>?_;subst q;refine ab fun _ _ q=>?_;subst q;refine aq fun _ q=>?_;subst q;refine ag fun _ q=>?_;subst q;refine ab fun _ _ q=>?_;subst q;refine aq fun _ q=>?_;subst q;refine ag fun _ q=>?_;subst q;refine ab fun _ _ q=>?_;subst q;refine aq fun _ q=>?_;subst q;refine ag fun _ q=>?_;subst q;refine ab fun _ _ q=>?_;subst q;refine aq fun _ q=>?_;subst q;refine bp fun _ q=>?_;subst q;refine aB fun q=>?_;subst q;refine ab fun _ _ q=>?_;subst q;refine aZ fun _ q=>?_;subst q;refine ab fun _ _ q=>?_;subst q;refine cP fun q=>?_;subst q;refine aB fun q=>?_;subst q;refine ab fun _ _ q=>?_;subst q;refine aZ fun _ q=>?_;subst q;refine ab fun _ _ q=>?_;subst q;refine aq fun _ q=>?_;subst q;refine ag fun _ q=>?_;subst q;refine ab fun _ _ q=>?_;subst q;refine aq fun _ q=>?_;subst q;refine ag fun _ q=>?_;subst q;refine ab fun _ _ q=>?_;subst q;refine aq fun _ q=>?_;subst q;refine bM fun _ q=>?_;subst q;refine ab fun _ _ q=>?_;subst q;refine bL fun _ q=>?_;subst q;refine ab fun _ _ q=>?_;subst q;refine gX fun q=>?_;subst q;refine aB fun q=>?_;subst q;refine ab fun _ _ q=>?_;subst q;refine bO fun _ q=>?_;subst q;refine aB fun q=>?_;subst q;exact h ⟨_,_,_,_,_,_,_,_,_,_,_,_,_⟩ rfl
structure jI where
 tk:List Da
 ps:Int
 en:Int
 aT:Int
 er:Int
 ne:Int
 tt:Int
 nd:List Da
 vk:Int
 vn:Int
 vs:List Nat
 vl:Nat
 il:List Da
def jI.hp (c:jI):List Ob:=[.box [.p (.slice 4 c.tk),.p (.int .i64 c.ps),.p (.int .i64 c.en),.p (.int .i64 c.aT),.p (.int .i64 c.er),.p (.int .i64 c.ne),.p (.int .i64 c.tt),.p (.slice 8 c.nd)],.box [.box 0 0],.box [.p (.int .i64 c.vk),.p (.int .i64 c.vn),.p (.str c.vs),.sl .nil 1 [],.arr 3 0 c.vl 1],.arr c.il]
noncomputable def vm (o:List Ob)(k:jI→R):R:=ae o fun a1 r2=>cn a1 fun l3=>ae l3 fun d4 l5=>dP d4 fun x6=>gU 4 x6 fun tk=>ae l5 fun d7 l8=>dP d7 fun x9=>ar .i64 x9 fun ps=>ae l8 fun d10 l11=>dP d10 fun x12=>ar .i64 x12 fun en=>ae l11 fun d13 l14=>dP d13 fun x15=>ar .i64 x15 fun aT=>ae l14 fun d16 l17=>dP d16 fun x18=>ar .i64 x18 fun er=>ae l17 fun d19 l20=>dP d19 fun x21=>ar .i64 x21 fun ne=>ae l20 fun d22 l23=>dP d22 fun x24=>ar .i64 x24 fun tt=>ae l23 fun d25 l26=>dP d25 fun x27=>gU 8 x27 fun nd=>aA l26<|ae r2 fun a28 r29=>cn a28 fun l30=>ae l30 fun d31 l32=>mm 0 0 d31<|aA l32<|ae r29 fun a33 r34=>cn a33 fun l35=>ae l35 fun d36 l37=>dP d36 fun x38=>ar .i64 x38 fun vk=>ae l37 fun d39 l40=>dP d39 fun x41=>ar .i64 x41 fun vn=>ae l40 fun d42 l43=>dP d42 fun x44=>cr x44 fun vs=>ae l43 fun d45 l46=>Gs 1 d45<|ae l46 fun d47 l48=>hU 3 1 d47 fun vl=>aA l48<|ae r34 fun a49 r50=>gp a49 fun il=>aA r50<|k ⟨tk,ps,en,aT,er,ne,tt,nd,vk,vn,vs,vl,il⟩
theorem IA {o:List Ob}{k:jI→R}{Z:R}(h:∀c:jI,o=c.hp→Le (k c) Z):Le (vm o k) Z:=by
 unfold vm;refine ab fun _ _ q=>?_;subst q;refine aZ fun _ q=>?_;subst q;refine ab fun _ _ q=>?_;subst q;refine aq fun _ q=>?_;subst q;refine bp fun _ q=>?_;subst q;refine ab fun _ _ q=>?_;subst q;refine aq fun _ q=>?_;subst q;refine ag fun _ q=>?_;subst q;refine ab fun _ _ q=>?_;subst q;refine aq fun _ q=>?_;subst q;refine ag fun _ q=>?_;subst q;refine ab fun _ _ q=>?_;subst q;refine aq fun _ q=>?_;subst q;refine ag fun _ q=>?_;subst q;refine ab fun _ _ q=>?_;subst q;refine aq fun _ q=>?_;subst q;refine ag fun _ q=>?_;subst q;refine ab fun _ _ q=>?_;subst q;refine aq fun _ q=>?_;subst q;refine ag fun _ q=>?_;subst q;refine ab fun _ _ q=>?_;subst q;refine aq fun _ q=>?_;subst q;refine ag fun _ q=>?_;subst q;refine ab fun _ _ q=>?_;subst q;refine aq fun _ q=>?_;subst q;refine bp fun _ q=>?_;subst q;refine aB fun q=>?_;subst q;refine ab fun _ _ q=>?_;subst q;refine aZ fun _ q=>?_;subst q;refine ab fun _ _ q=>?_;subst q;refine cP fun q=>?_;subst q;refine aB fun q=>?_;subst q;refine ab fun _ _ q=>?_;subst q;refine aZ fun _ q=>?_;subst q;refine ab fun _ _ q=>?_;subst q;refine aq fun _ q=>?_;subst q;refine ag fun _ q=>?_;subst q;refine ab fun _ _ q=>?_;subst q;refine aq fun _ q=>?_;subst q;refine ag fun _ q=>?_;subst q;refine ab fun _ _ q=>?_;subst q;refine aq fun _ q=>?_;subst q;refine bM fun _ q=>?_;subst q;refine ab fun _ _ q=>?_;subst q;refine gX fun q=>?_;subst q;refine ab fun _ _ q=>?_;subst q;refine bL fun _ q=>?_;subst q;refine aB fun q=>?_;subst q;refine ab fun _ _ q=>?_;subst q;refine bO fun _ q=>?_;subst q;refine aB fun q=>?_;subst q;exact h ⟨_,_,_,_,_,_,_,_,_,_,_,_,_⟩ rfl
structure xl where
 tk:List Da
 ps:Int
 en:Int
 aT:Int
 er:Int
 ne:Int
 tt:Int
 nd:List Da
 mn:List Nat
 mp:Nat
 mr:Int
 pl:List Da
def xl.hp (c:xl):List Ob:=[.box [.p (.slice 4 c.tk),.p (.int .i64 c.ps),.p (.int .i64 c.en),.p (.int .i64 c.aT),.p (.int .i64 c.er),.p (.int .i64 c.ne),.p (.int .i64 c.tt),.p (.slice 8 c.nd)],.box [.box 0 0],.box [.p (.str c.mn),.arr 3 0 c.mp 2,.p (.int .i64 c.mr),.sl .nil 8 []],.arr c.pl]
noncomputable def Cc (o:List Ob)(k:xl→R):R:=ae o fun a1 r2=>cn a1 fun l3=>ae l3 fun d4 l5=>dP d4 fun x6=>gU 4 x6 fun tk=>ae l5 fun d7 l8=>dP d7 fun x9=>ar .i64 x9 fun ps=>ae l8 fun d10 l11=>dP d10 fun x12=>ar .i64 x12 fun en=>ae l11 fun d13 l14=>dP d13 fun x15=>ar .i64 x15 fun aT=>ae l14 fun d16 l17=>dP d16 fun x18=>ar .i64 x18 fun er=>ae l17 fun d19 l20=>dP d19 fun x21=>ar .i64 x21 fun ne=>ae l20 fun d22 l23=>dP d22 fun x24=>ar .i64 x24 fun tt=>ae l23 fun d25 l26=>dP d25 fun x27=>gU 8 x27 fun nd=>aA l26<|ae r2 fun a28 r29=>cn a28 fun l30=>ae l30 fun d31 l32=>mm 0 0 d31<|aA l32<|ae r29 fun a33 r34=>cn a33 fun l35=>ae l35 fun d36 l37=>dP d36 fun x38=>cr x38 fun mn=>ae l37 fun d39 l40=>hU 3 2 d39 fun mp=>ae l40 fun d41 l42=>dP d41 fun x43=>ar .i64 x43 fun mr=>ae l42 fun d44 l45=>Gs 8 d44<|aA l45<|ae r34 fun a46 r47=>gp a46 fun pl=>aA r47<|k ⟨tk,ps,en,aT,er,ne,tt,nd,mn,mp,mr,pl⟩
theorem LP {o:List Ob}{k:xl→R}{Z:R}(h:∀c:xl,o=c.hp→Le (k c) Z):Le (Cc o k) Z:=by
 unfold Cc;refine ab fun _ _ q=>?_;subst q;refine aZ fun _ q=>?_;subst q;refine ab fun _ _ q=>?_;subst q;refine aq fun _ q=>?_;subst q;refine bp fun _ q=>?_;subst q;refine ab fun _ _ q=>?_;subst q;refine aq fun _ q=>?_;subst q;refine ag fun _ q=>?_;subst q;refine ab fun _ _ q=>?_;subst q;refine aq fun _ q=>?_;subst q;refine ag fun _ q=>?_;subst q;refine ab fun _ _ q=>?_;subst q;refine aq fun _ q=>?_;subst q;refine ag fun _ q=>?_;subst q;refine ab fun _ _ q=>?_;subst q;refine aq fun _ q=>?_;subst q;refine ag fun _ q=>?_;subst q;refine ab fun _ _ q=>?_;subst q;refine aq fun _ q=>?_;subst q;refine ag fun _ q=>?_;subst q;refine ab fun _ _ q=>?_;subst q;refine aq fun _ q=>?_;subst q;refine ag fun _ q=>?_;subst q;refine ab fun _ _ q=>?_;subst q;refine aq fun _ q=>?_;subst q;refine bp fun _ q=>?_;subst q;refine aB fun q=>?_;subst q;refine ab fun _ _ q=>?_;subst q;refine aZ fun _ q=>?_;subst q;refine ab fun _ _ q=>?_;subst q;refine cP fun q=>?_;subst q;refine aB fun q=>?_;subst q;refine ab fun _ _ q=>?_;subst q;refine aZ fun _ q=>?_;subst q;refine ab fun _ _ q=>?_;subst q;refine aq fun _ q=>?_;subst q;refine bM fun _ q=>?_;subst q;refine ab fun _ _ q=>?_;subst q;refine bL fun _ q=>?_;subst q;refine ab fun _ _ q=>?_;subst q;refine aq fun _ q=>?_;subst q;refine ag fun _ q=>?_;subst q;refine ab fun _ _ q=>?_;subst q;refine gX fun q=>?_;subst q;refine aB fun q=>?_;subst q;refine ab fun _ _ q=>?_;subst q;refine bO fun _ q=>?_;subst q;refine aB fun q=>?_;subst q;exact h ⟨_,_,_,_,_,_,_,_,_,_,_,_⟩ rfl
structure Vj where
 vk:Int
 vn:Int
 vs:List Nat
 vi:Nat
 il:List Da
 tk:List Da
 ps:Int
 en:Int
 aT:Int
 er:Int
 ne:Int
 tt:Int
 nd:Nat
 no:List Da
def Vj.hp (c:Vj):List Ob:=[.box [.p (.int .i64 c.vk),.p (.int .i64 c.vn),.p (.str c.vs),.arr 1 0 c.vi 1,.sl .nil 1 []],.arr c.il,.box [.box 3 0],.box [.p (.slice 4 c.tk),.p (.int .i64 c.ps),.p (.int .i64 c.en),.p (.int .i64 c.aT),.p (.int .i64 c.er),.p (.int .i64 c.ne),.p (.int .i64 c.tt),.arr 4 0 c.nd 8],.arr c.no]
structure Tw where
 vk:Int
 vn:Int
 vs:List Nat
 vi:Nat
 tk:List Da
 ps:Int
 en:Int
 aT:Int
 er:Int
 ne:Int
 tt:Int
 nd:Nat
 no:List Da
 il:List Da
def Tw.hp (c:Tw):List Ob:=[.box [.p (.int .i64 c.vk),.p (.int .i64 c.vn),.p (.str c.vs),.arr 5 0 c.vi 1,.sl .nil 1 []],.dead,.box [.box 3 0],.box [.p (.slice 4 c.tk),.p (.int .i64 c.ps),.p (.int .i64 c.en),.p (.int .i64 c.aT),.p (.int .i64 c.er),.p (.int .i64 c.ne),.p (.int .i64 c.tt),.arr 4 0 c.nd 8],.arr c.no,.arr c.il]
noncomputable def LF (o:List Ob)(k:Tw→R):R:=ae o fun a1 r2=>cn a1 fun l3=>ae l3 fun d4 l5=>dP d4 fun x6=>ar .i64 x6 fun vk=>ae l5 fun d7 l8=>dP d7 fun x9=>ar .i64 x9 fun vn=>ae l8 fun d10 l11=>dP d10 fun x12=>cr x12 fun vs=>ae l11 fun d13 l14=>hU 5 1 d13 fun vi=>ae l14 fun d15 l16=>Gs 1 d15<|aA l16<|ae r2 fun a17 r18=>qf a17<|ae r18 fun a19 r20=>cn a19 fun l21=>ae l21 fun d22 l23=>mm 3 0 d22<|aA l23<|ae r20 fun a24 r25=>cn a24 fun l26=>ae l26 fun d27 l28=>dP d27 fun x29=>gU 4 x29 fun tk=>ae l28 fun d30 l31=>dP d30 fun x32=>ar .i64 x32 fun ps=>ae l31 fun d33 l34=>dP d33 fun x35=>ar .i64 x35 fun en=>ae l34 fun d36 l37=>dP d36 fun x38=>ar .i64 x38 fun aT=>ae l37 fun d39 l40=>dP d39 fun x41=>ar .i64 x41 fun er=>ae l40 fun d42 l43=>dP d42 fun x44=>ar .i64 x44 fun ne=>ae l43 fun d45 l46=>dP d45 fun x47=>ar .i64 x47 fun tt=>ae l46 fun d48 l49=>hU 4 8 d48 fun nd=>aA l49<|ae r25 fun a50 r51=>gp a50 fun no=>ae r51 fun a52 r53=>gp a52 fun il=>aA r53<|k ⟨vk,vn,vs,vi,tk,ps,en,aT,er,ne,tt,nd,no,il⟩
theorem LG {o:List Ob}{k:Tw→R}{Z:R}(h:∀c:Tw,o=c.hp→Le (k c) Z):Le (LF o k) Z:=by
 unfold LF;refine ab fun _ _ q=>?_;subst q;refine aZ fun _ q=>?_;subst q;refine ab fun _ _ q=>?_;subst q;refine aq fun _ q=>?_;subst q;refine ag fun _ q=>?_;subst q;refine ab fun _ _ q=>?_;subst q;refine aq fun _ q=>?_;subst q;refine ag fun _ q=>?_;subst q;refine ab fun _ _ q=>?_;subst q;refine aq fun _ q=>?_;subst q;refine bM fun _ q=>?_;subst q;refine ab fun _ _ q=>?_;subst q;refine bL fun _ q=>?_;subst q;refine ab fun _ _ q=>?_;subst q;refine gX fun q=>?_;subst q;refine aB fun q=>?_;subst q;refine ab fun _ _ q=>?_;subst q;refine gQ fun q=>?_;subst q;refine ab fun _ _ q=>?_;subst q;refine aZ fun _ q=>?_;subst q;refine ab fun _ _ q=>?_;subst q;refine cP fun q=>?_;subst q;refine aB fun q=>?_;subst q;refine ab fun _ _ q=>?_;subst q;refine aZ fun _ q=>?_;subst q;refine ab fun _ _ q=>?_;subst q;refine aq fun _ q=>?_;subst q;refine bp fun _ q=>?_;subst q;refine ab fun _ _ q=>?_;subst q;refine aq fun _ q=>?_;subst q;refine ag fun _ q=>?_;subst q;refine ab fun _ _ q=>?_;subst q;refine aq fun _ q=>?_;subst q;refine ag fun _ q=>?_;subst q;refine ab fun _ _ q=>?_;subst q;refine aq fun _ q=>?_;subst q;refine ag fun _ q=>?_;subst q;refine ab fun _ _ q=>?_;subst q;refine aq fun _ q=>?_;subst q;refine ag fun _ q=>?_;subst q;refine ab fun _ _ q=>?_;subst q;refine aq fun _ q=>?_;subst q;refine ag fun _ q=>?_;subst q;refine ab fun _ _ q=>?_;subst q;refine aq fun _ q=>?_;subst q;refine ag fun _ q=>?_;subst q;refine ab fun _ _ q=>?_;subst q;refine bL fun _ q=>?_;subst q;refine aB fun q=>?_;subst q;refine ab fun _ _ q=>?_;subst q;refine bO fun _ q=>?_;subst q;refine ab fun _ _ q=>?_;subst q;refine bO fun _ q=>?_;subst q;refine aB fun q=>?_;subst q;exact h ⟨_,_,_,_,_,_,_,_,_,_,_,_,_,_⟩ rfl
structure NS where
 vk:Int
 vn:Int
 vs:List Nat
 vi:Nat
 il:List Da
 tk:List Da
 ps:Int
 en:Int
 aT:Int
 er:Int
 ne:Int
 tt:Int
 nd:List Da
def NS.hp (c:NS):List Ob:=[.box [.p (.int .i64 c.vk),.p (.int .i64 c.vn),.p (.str c.vs),.arr 1 0 c.vi 1,.sl .nil 1 []],.arr c.il,.box [.box 3 0],.box [.p (.slice 4 c.tk),.p (.int .i64 c.ps),.p (.int .i64 c.en),.p (.int .i64 c.aT),.p (.int .i64 c.er),.p (.int .i64 c.ne),.p (.int .i64 c.tt),.p (.slice 8 c.nd)]]
structure N8 where
 vk:Int
 vn:Int
 vs:List Nat
 vi:Nat
 tk:List Da
 ps:Int
 en:Int
 aT:Int
 er:Int
 ne:Int
 tt:Int
 nd:List Da
 il:List Da
def N8.hp (c:N8):List Ob:=[.box [.p (.int .i64 c.vk),.p (.int .i64 c.vn),.p (.str c.vs),.arr 4 0 c.vi 1,.sl .nil 1 []],.dead,.box [.box 3 0],.box [.p (.slice 4 c.tk),.p (.int .i64 c.ps),.p (.int .i64 c.en),.p (.int .i64 c.aT),.p (.int .i64 c.er),.p (.int .i64 c.ne),.p (.int .i64 c.tt),.p (.slice 8 c.nd)],.arr c.il]
noncomputable def sf (o:List Ob)(k:N8→R):R:=ae o fun a1 r2=>cn a1 fun l3=>ae l3 fun d4 l5=>dP d4 fun x6=>ar .i64 x6 fun vk=>ae l5 fun d7 l8=>dP d7 fun x9=>ar .i64 x9 fun vn=>ae l8 fun d10 l11=>dP d10 fun x12=>cr x12 fun vs=>ae l11 fun d13 l14=>hU 4 1 d13 fun vi=>ae l14 fun d15 l16=>Gs 1 d15<|aA l16<|ae r2 fun a17 r18=>qf a17<|ae r18 fun a19 r20=>cn a19 fun l21=>ae l21 fun d22 l23=>mm 3 0 d22<|aA l23<|ae r20 fun a24 r25=>cn a24 fun l26=>ae l26 fun d27 l28=>dP d27 fun x29=>gU 4 x29 fun tk=>ae l28 fun d30 l31=>dP d30 fun x32=>ar .i64 x32 fun ps=>ae l31 fun d33 l34=>dP d33 fun x35=>ar .i64 x35 fun en=>ae l34 fun d36 l37=>dP d36 fun x38=>ar .i64 x38 fun aT=>ae l37 fun d39 l40=>dP d39 fun x41=>ar .i64 x41 fun er=>ae l40 fun d42 l43=>dP d42 fun x44=>ar .i64 x44 fun ne=>ae l43 fun d45 l46=>dP d45 fun x47=>ar .i64 x47 fun tt=>ae l46 fun d48 l49=>dP d48 fun x50=>gU 8 x50 fun nd=>aA l49<|ae r25 fun a51 r52=>gp a51 fun il=>aA r52<|k ⟨vk,vn,vs,vi,tk,ps,en,aT,er,ne,tt,nd,il⟩
theorem LJ {o:List Ob}{k:N8→R}{Z:R}(h:∀c:N8,o=c.hp→Le (k c) Z):Le (sf o k) Z:=by
 unfold sf;refine ab fun _ _ q=>?_;subst q;refine aZ fun _ q=>?_;subst q;refine ab fun _ _ q=>?_;subst q;refine aq fun _ q=>?_;subst q;refine ag fun _ q=>?_;subst q;refine ab fun _ _ q=>?_;subst q;refine aq fun _ q=>?_;subst q;refine ag fun _ q=>?_;subst q;refine ab fun _ _ q=>?_;subst q;refine aq fun _ q=>?_;subst q;refine bM fun _ q=>?_;subst q;refine ab fun _ _ q=>?_;subst q;refine bL fun _ q=>?_;subst q;refine ab fun _ _ q=>?_;subst q;refine gX fun q=>?_;subst q;refine aB fun q=>?_;subst q;refine ab fun _ _ q=>?_;subst q;refine gQ fun q=>?_;subst q;refine ab fun _ _ q=>?_;subst q;refine aZ fun _ q=>?_;subst q;refine ab fun _ _ q=>?_;subst q;refine cP fun q=>?_;subst q;refine aB fun q=>?_;subst q;refine ab fun _ _ q=>?_;subst q;refine aZ fun _ q=>?_;subst q;refine ab fun _ _ q=>?_;subst q;refine aq fun _ q=>?_;subst q;refine bp fun _ q=>?_;subst q;refine ab fun _ _ q=>?_;subst q;refine aq fun _ q=>?_;subst q;refine ag fun _ q=>?_;subst q;refine ab fun _ _ q=>?_;subst q;refine aq fun _ q=>?_;subst q;refine ag fun _ q=>?_;subst q;refine ab fun _ _ q=>?_;subst q;refine aq fun _ q=>?_;subst q;refine ag fun _ q=>?_;subst q;refine ab fun _ _ q=>?_;subst q;refine aq fun _ q=>?_;subst q;refine ag fun _ q=>?_;subst q;refine ab fun _ _ q=>?_;subst q;refine aq fun _ q=>?_;subst q;refine ag fun _ q=>?_;subst q;refine ab fun _ _ q=>?_;subst q;refine aq fun _ q=>?_;subst q;refine ag fun _ q=>?_;subst q;refine ab fun _ _ q=>?_;subst q;refine aq fun _ q=>?_;subst q;refine bp fun _ q=>?_;subst q;refine aB fun q=>?_;subst q;refine ab fun _ _ q=>?_;subst q;refine bO fun _ q=>?_;subst q;refine aB fun q=>?_;subst q;exact h ⟨_,_,_,_,_,_,_,_,_,_,_,_,_⟩ rfl
structure Vk where
 vk:Int
 vn:Int
 vs:List Nat
 vl:Nat
 il:List Da
 tk:List Da
 ps:Int
 en:Int
 aT:Int
 er:Int
 ne:Int
 tt:Int
 nd:Nat
 no:List Da
def Vk.hp (c:Vk):List Ob:=[.box [.p (.int .i64 c.vk),.p (.int .i64 c.vn),.p (.str c.vs),.sl .nil 1 [],.arr 1 0 c.vl 1],.arr c.il,.box [.box 3 0],.box [.p (.slice 4 c.tk),.p (.int .i64 c.ps),.p (.int .i64 c.en),.p (.int .i64 c.aT),.p (.int .i64 c.er),.p (.int .i64 c.ne),.p (.int .i64 c.tt),.arr 4 0 c.nd 8],.arr c.no]
structure Tx where
 vk:Int
 vn:Int
 vs:List Nat
 vl:Nat
 tk:List Da
 ps:Int
 en:Int
 aT:Int
 er:Int
 ne:Int
 tt:Int
 nd:Nat
 no:List Da
 il:List Da
def Tx.hp (c:Tx):List Ob:=[.box [.p (.int .i64 c.vk),.p (.int .i64 c.vn),.p (.str c.vs),.sl .nil 1 [],.arr 5 0 c.vl 1],.dead,.box [.box 3 0],.box [.p (.slice 4 c.tk),.p (.int .i64 c.ps),.p (.int .i64 c.en),.p (.int .i64 c.aT),.p (.int .i64 c.er),.p (.int .i64 c.ne),.p (.int .i64 c.tt),.arr 4 0 c.nd 8],.arr c.no,.arr c.il]
noncomputable def LH (o:List Ob)(k:Tx→R):R:=ae o fun a1 r2=>cn a1 fun l3=>ae l3 fun d4 l5=>dP d4 fun x6=>ar .i64 x6 fun vk=>ae l5 fun d7 l8=>dP d7 fun x9=>ar .i64 x9 fun vn=>ae l8 fun d10 l11=>dP d10 fun x12=>cr x12 fun vs=>ae l11 fun d13 l14=>Gs 1 d13<|ae l14 fun d15 l16=>hU 5 1 d15 fun vl=>aA l16<|ae r2 fun a17 r18=>qf a17<|ae r18 fun a19 r20=>cn a19 fun l21=>ae l21 fun d22 l23=>mm 3 0 d22<|aA l23<|ae r20 fun a24 r25=>cn a24 fun l26=>ae l26 fun d27 l28=>dP d27 fun x29=>gU 4 x29 fun tk=>ae l28 fun d30 l31=>dP d30 fun x32=>ar .i64 x32 fun ps=>ae l31 fun d33 l34=>dP d33 fun x35=>ar .i64 x35 fun en=>ae l34 fun d36 l37=>dP d36 fun x38=>ar .i64 x38 fun aT=>ae l37 fun d39 l40=>dP d39 fun x41=>ar .i64 x41 fun er=>ae l40 fun d42 l43=>dP d42 fun x44=>ar .i64 x44 fun ne=>ae l43 fun d45 l46=>dP d45 fun x47=>ar .i64 x47 fun tt=>ae l46 fun d48 l49=>hU 4 8 d48 fun nd=>aA l49<|ae r25 fun a50 r51=>gp a50 fun no=>ae r51 fun a52 r53=>gp a52 fun il=>aA r53<|k ⟨vk,vn,vs,vl,tk,ps,en,aT,er,ne,tt,nd,no,il⟩
theorem LI {o:List Ob}{k:Tx→R}{Z:R}(h:∀c:Tx,o=c.hp→Le (k c) Z):Le (LH o k) Z:=by
 unfold LH;refine ab fun _ _ q=>?_;subst q;refine aZ fun _ q=>?_;subst q;refine ab fun _ _ q=>?_;subst q;refine aq fun _ q=>?_;subst q;refine ag fun _ q=>?_;subst q;refine ab fun _ _ q=>?_;subst q;refine aq fun _ q=>?_;subst q;refine ag fun _ q=>?_;subst q;refine ab fun _ _ q=>?_;subst q;refine aq fun _ q=>?_;subst q;refine bM fun _ q=>?_;subst q;refine ab fun _ _ q=>?_;subst q;refine gX fun q=>?_;subst q;refine ab fun _ _ q=>?_;subst q;refine bL fun _ q=>?_;subst q;refine aB fun q=>?_;subst q;refine ab fun _ _ q=>?_;subst q;refine gQ fun q=>?_;subst q;refine ab fun _ _ q=>?_;subst q;refine aZ fun _ q=>?_;subst q;refine ab fun _ _ q=>?_;subst q;refine cP fun q=>?_;subst q;refine aB fun q=>?_;subst q;refine ab fun _ _ q=>?_;subst q;refine aZ fun _ q=>?_;subst q;refine ab fun _ _ q=>?_;subst q;refine aq fun _ q=>?_;subst q;refine bp fun _ q=>?_;subst q;refine ab fun _ _ q=>?_;subst q;refine aq fun _ q=>?_;subst q;refine ag fun _ q=>?_;subst q;refine ab fun _ _ q=>?_;subst q;refine aq fun _ q=>?_;subst q;refine ag fun _ q=>?_;subst q;refine ab fun _ _ q=>?_;subst q;refine aq fun _ q=>?_;subst q;refine ag fun _ q=>?_;subst q;refine ab fun _ _ q=>?_;subst q;refine aq fun _ q=>?_;subst q;refine ag fun _ q=>?_;subst q;refine ab fun _ _ q=>?_;subst q;refine aq fun _ q=>?_;subst q;refine ag fun _ q=>?_;subst q;refine ab fun _ _ q=>?_;subst q;refine aq fun _ q=>?_;subst q;refine ag fun _ q=>?_;subst q;refine ab fun _ _ q=>?_;subst q;refine bL fun _ q=>?_;subst q;refine aB fun q=>?_;subst q;refine ab fun _ _ q=>?_;subst q;refine bO fun _ q=>?_;subst q;refine ab fun _ _ q=>?_;subst q;refine bO fun _ q=>?_;subst q;refine aB fun q=>?_;subst q;exact h ⟨_,_,_,_,_,_,_,_,_,_,_,_,_,_⟩ rfl
structure NT where
 vk:Int
 vn:Int
 vs:List Nat
 vl:Nat
 il:List Da
 tk:List Da
 ps:Int
 en:Int
 aT:Int
 er:Int
 ne:Int
 tt:Int
 nd:List Da
def NT.hp (c:NT):List Ob:=[.box [.p (.int .i64 c.vk),.p (.int .i64 c.vn),.p (.str c.vs),.sl .nil 1 [],.arr 1 0 c.vl 1],.arr c.il,.box [.box 3 0],.box [.p (.slice 4 c.tk),.p (.int .i64 c.ps),.p (.int .i64 c.en),.p (.int .i64 c.aT),.p (.int .i64 c.er),.p (.int .i64 c.ne),.p (.int .i64 c.tt),.p (.slice 8 c.nd)]]
structure N9 where
 vk:Int
 vn:Int
 vs:List Nat
 vl:Nat
 tk:List Da
 ps:Int
 en:Int
 aT:Int
 er:Int
 ne:Int
 tt:Int
 nd:List Da
 il:List Da
def N9.hp (c:N9):List Ob:=[.box [.p (.int .i64 c.vk),.p (.int .i64 c.vn),.p (.str c.vs),.sl .nil 1 [],.arr 4 0 c.vl 1],.dead,.box [.box 3 0],.box [.p (.slice 4 c.tk),.p (.int .i64 c.ps),.p (.int .i64 c.en),.p (.int .i64 c.aT),.p (.int .i64 c.er),.p (.int .i64 c.ne),.p (.int .i64 c.tt),.p (.slice 8 c.nd)],.arr c.il]
noncomputable def sg (o:List Ob)(k:N9→R):R:=ae o fun a1 r2=>cn a1 fun l3=>ae l3 fun d4 l5=>dP d4 fun x6=>ar .i64 x6 fun vk=>ae l5 fun d7 l8=>dP d7 fun x9=>ar .i64 x9 fun vn=>ae l8 fun d10 l11=>dP d10 fun x12=>cr x12 fun vs=>ae l11 fun d13 l14=>Gs 1 d13<|ae l14 fun d15 l16=>hU 4 1 d15 fun vl=>aA l16<|ae r2 fun a17 r18=>qf a17<|ae r18 fun a19 r20=>cn a19 fun l21=>ae l21 fun d22 l23=>mm 3 0 d22<|aA l23<|ae r20 fun a24 r25=>cn a24 fun l26=>ae l26 fun d27 l28=>dP d27 fun x29=>gU 4 x29 fun tk=>ae l28 fun d30 l31=>dP d30 fun x32=>ar .i64 x32 fun ps=>ae l31 fun d33 l34=>dP d33 fun x35=>ar .i64 x35 fun en=>ae l34 fun d36 l37=>dP d36 fun x38=>ar .i64 x38 fun aT=>ae l37 fun d39 l40=>dP d39 fun x41=>ar .i64 x41 fun er=>ae l40 fun d42 l43=>dP d42 fun x44=>ar .i64 x44 fun ne=>ae l43 fun d45 l46=>dP d45 fun x47=>ar .i64 x47 fun tt=>ae l46 fun d48 l49=>dP d48 fun x50=>gU 8 x50 fun nd=>aA l49<|ae r25 fun a51 r52=>gp a51 fun il=>aA r52<|k ⟨vk,vn,vs,vl,tk,ps,en,aT,er,ne,tt,nd,il⟩
theorem LK {o:List Ob}{k:N9→R}{Z:R}(h:∀c:N9,o=c.hp→Le (k c) Z):Le (sg o k) Z:=by
 unfold sg;refine ab fun _ _ q=>?_;subst q;refine aZ fun _ q=>?_;subst q;refine ab fun _ _ q=>?_;subst q;refine aq fun _ q=>?_;subst q;refine ag fun _ q=>?_;subst q;refine ab fun _ _ q=>?_;subst q;refine aq fun _ q=>?_;subst q;refine ag fun _ q=>?_;subst q;refine ab fun _ _ q=>?_;subst q;refine aq fun _ q=>?_;subst q;refine bM fun _ q=>?_;subst q;refine ab fun _ _ q=>?_;subst q;refine gX fun q=>?_;subst q;refine ab fun _ _ q=>?_;subst q;refine bL fun _ q=>?_;subst q;refine aB fun q=>?_;subst q;refine ab fun _ _ q=>?_;subst q;refine gQ fun q=>?_;subst q;refine ab fun _ _ q=>?_;subst q;refine aZ fun _ q=>?_;subst q;refine ab fun _ _ q=>?_;subst q;refine cP fun q=>?_;subst q;refine aB fun q=>?_;subst q;refine ab fun _ _ q=>?_;subst q;refine aZ fun _ q=>?_;subst q;refine ab fun _ _ q=>?_;subst q;refine aq fun _ q=>?_;subst q;refine bp fun _ q=>?_;subst q;refine ab fun _ _ q=>?_;subst q;refine aq fun _ q=>?_;subst q;refine ag fun _ q=>?_;subst q;refine ab fun _ _ q=>?_;subst q;refine aq fun _ q=>?_;subst q;refine ag fun _ q=>?_;subst q;refine ab fun _ _ q=>?_;subst q;refine aq fun _ q=>?_;subst q;refine ag fun _ q=>?_;subst q;refine ab fun _ _ q=>?_;subst q;refine aq fun _ q=>?_;subst q;refine ag fun _ q=>?_;subst q;refine ab fun _ _ q=>?_;subst q;refine aq fun _ q=>?_;subst q;refine ag fun _ q=>?_;subst q;refine ab fun _ _ q=>?_;subst q;refine aq fun _ q=>?_;subst q;refine ag fun _ q=>?_;subst q;refine ab fun _ _ q=>?_;subst q;refine aq fun _ q=>?_;subst q;refine bp fun _ q=>?_;subst q;refine aB fun q=>?_;subst q;refine ab fun _ _ q=>?_;subst q;refine bO fun _ q=>?_;subst q;refine aB fun q=>?_;subst q;exact h ⟨_,_,_,_,_,_,_,_,_,_,_,_,_⟩ rfl
structure TA where
 tk:List Da
 ps:Int
 en:Int
 aT:Int
 er:Int
 ne:Int
 tt:Int
 nd:Nat
 no:List Da
def TA.hp (c:TA):List Ob:=[.box [.box 1 0],.box [.p (.slice 4 c.tk),.p (.int .i64 c.ps),.p (.int .i64 c.en),.p (.int .i64 c.aT),.p (.int .i64 c.er),.p (.int .i64 c.ne),.p (.int .i64 c.tt),.arr 2 0 c.nd 8],.arr c.no]
noncomputable def LS (o:List Ob)(k:TA→R):R:=ae o fun a1 r2=>cn a1 fun l3=>ae l3 fun d4 l5=>mm 1 0 d4<|aA l5<|ae r2 fun a6 r7=>cn a6 fun l8=>ae l8 fun d9 l10=>dP d9 fun x11=>gU 4 x11 fun tk=>ae l10 fun d12 l13=>dP d12 fun x14=>ar .i64 x14 fun ps=>ae l13 fun d15 l16=>dP d15 fun x17=>ar .i64 x17 fun en=>ae l16 fun d18 l19=>dP d18 fun x20=>ar .i64 x20 fun aT=>ae l19 fun d21 l22=>dP d21 fun x23=>ar .i64 x23 fun er=>ae l22 fun d24 l25=>dP d24 fun x26=>ar .i64 x26 fun ne=>ae l25 fun d27 l28=>dP d27 fun x29=>ar .i64 x29 fun tt=>ae l28 fun d30 l31=>hU 2 8 d30 fun nd=>aA l31<|ae r7 fun a32 r33=>gp a32 fun no=>aA r33<|k ⟨tk,ps,en,aT,er,ne,tt,nd,no⟩
theorem LT {o:List Ob}{k:TA→R}{Z:R}(h:∀c:TA,o=c.hp→Le (k c) Z):Le (LS o k) Z:=by
 unfold LS;refine ab fun _ _ q=>?_;subst q;refine aZ fun _ q=>?_;subst q;refine ab fun _ _ q=>?_;subst q;refine cP fun q=>?_;subst q;refine aB fun q=>?_;subst q;refine ab fun _ _ q=>?_;subst q;refine aZ fun _ q=>?_;subst q;refine ab fun _ _ q=>?_;subst q;refine aq fun _ q=>?_;subst q;refine bp fun _ q=>?_;subst q;refine ab fun _ _ q=>?_;subst q;refine aq fun _ q=>?_;subst q;refine ag fun _ q=>?_;subst q;refine ab fun _ _ q=>?_;subst q;refine aq fun _ q=>?_;subst q;refine ag fun _ q=>?_;subst q;refine ab fun _ _ q=>?_;subst q;refine aq fun _ q=>?_;subst q;refine ag fun _ q=>?_;subst q;refine ab fun _ _ q=>?_;subst q;refine aq fun _ q=>?_;subst q;refine ag fun _ q=>?_;subst q;refine ab fun _ _ q=>?_;subst q;refine aq fun _ q=>?_;subst q;refine ag fun _ q=>?_;subst q;refine ab fun _ _ q=>?_;subst q;refine aq fun _ q=>?_;subst q;refine ag fun _ q=>?_;subst q;refine ab fun _ _ q=>?_;subst q;refine bL fun _ q=>?_;subst q;refine aB fun q=>?_;subst q;refine ab fun _ _ q=>?_;subst q;refine bO fun _ q=>?_;subst q;refine aB fun q=>?_;subst q;exact h ⟨_,_,_,_,_,_,_,_,_⟩ rfl
structure tH where
 tk:List Da
 ps:Int
 en:Int
 aT:Int
 er:Int
 ne:Int
 tt:Int
 nd:List Da
def tH.hp (c:tH):List Ob:=[.box [.box 1 0],.box [.p (.slice 4 c.tk),.p (.int .i64 c.ps),.p (.int .i64 c.en),.p (.int .i64 c.aT),.p (.int .i64 c.er),.p (.int .i64 c.ne),.p (.int .i64 c.tt),.p (.slice 8 c.nd)]]
noncomputable def sj (o:List Ob)(k:tH→R):R:=ae o fun a1 r2=>cn a1 fun l3=>ae l3 fun d4 l5=>mm 1 0 d4<|aA l5<|ae r2 fun a6 r7=>cn a6 fun l8=>ae l8 fun d9 l10=>dP d9 fun x11=>gU 4 x11 fun tk=>ae l10 fun d12 l13=>dP d12 fun x14=>ar .i64 x14 fun ps=>ae l13 fun d15 l16=>dP d15 fun x17=>ar .i64 x17 fun en=>ae l16 fun d18 l19=>dP d18 fun x20=>ar .i64 x20 fun aT=>ae l19 fun d21 l22=>dP d21 fun x23=>ar .i64 x23 fun er=>ae l22 fun d24 l25=>dP d24 fun x26=>ar .i64 x26 fun ne=>ae l25 fun d27 l28=>dP d27 fun x29=>ar .i64 x29 fun tt=>ae l28 fun d30 l31=>dP d30 fun x32=>gU 8 x32 fun nd=>aA l31<|aA r7<|k ⟨tk,ps,en,aT,er,ne,tt,nd⟩
theorem Ce {o:List Ob}{k:tH→R}{Z:R}(h:∀c:tH,o=c.hp→Le (k c) Z):Le (sj o k) Z:=by
 unfold sj;refine ab fun _ _ q=>?_;subst q;refine aZ fun _ q=>?_;subst q;refine ab fun _ _ q=>?_;subst q;refine cP fun q=>?_;subst q;refine aB fun q=>?_;subst q;refine ab fun _ _ q=>?_;subst q;refine aZ fun _ q=>?_;subst q;refine ab fun _ _ q=>?_;subst q;refine aq fun _ q=>?_;subst q;refine bp fun _ q=>?_;subst q;refine ab fun _ _ q=>?_;subst q;refine aq fun _ q=>?_;subst q;refine ag fun _ q=>?_;subst q;refine ab fun _ _ q=>?_;subst q;refine aq fun _ q=>?_;subst q;refine ag fun _ q=>?_;subst q;refine ab fun _ _ q=>?_;subst q;refine aq fun _ q=>?_;subst q;refine ag fun _ q=>?_;subst q;refine ab fun _ _ q=>?_;subst q;refine aq fun _ q=>?_;subst q;refine ag fun _ q=>?_;subst q;refine ab fun _ _ q=>?_;subst q;refine aq fun _ q=>?_;subst q;refine ag fun _ q=>?_;subst q;refine ab fun _ _ q=>?_;subst q;refine aq fun _ q=>?_;subst q;refine ag fun _ q=>?_;subst q;refine ab fun _ _ q=>?_;subst q;refine aq fun _ q=>?_;subst q;refine bp fun _ q=>?_;subst q;refine aB fun q=>?_;subst q;refine aB fun q=>?_;subst q;exact h ⟨_,_,_,_,_,_,_,_⟩ rfl
structure Eb where
 tk:List Da
 ps:Int
 en:Int
 aT:Int
 er:Int
 ne:Int
 tt:Int
 nd:Nat
 kl:List Da
 no:List Da
def Eb.hp (c:Eb):List Ob:=[.box [.p (.slice 4 c.tk),.p (.int .i64 c.ps),.p (.int .i64 c.en),.p (.int .i64 c.aT),.p (.int .i64 c.er),.p (.int .i64 c.ne),.p (.int .i64 c.tt),.arr 2 0 c.nd 8],.arr c.kl,.arr c.no]
structure NU where
 tk:List Da
 ps:Int
 en:Int
 aT:Int
 er:Int
 ne:Int
 tt:Int
 nd:List Da
 mn:List Nat
 mp:Nat
 mr:Int
 pl:List Da
def NU.hp (c:NU):List Ob:=[.box [.box 1 0],.box [.p (.slice 4 c.tk),.p (.int .i64 c.ps),.p (.int .i64 c.en),.p (.int .i64 c.aT),.p (.int .i64 c.er),.p (.int .i64 c.ne),.p (.int .i64 c.tt),.p (.slice 8 c.nd)],.box [.p (.str c.mn),.arr 3 0 c.mp 2,.p (.int .i64 c.mr),.sl .nil 8 []],.arr c.pl]
structure JC where
 tk:List Da
 ps:Int
 en:Int
 aT:Int
 er:Int
 ne:Int
 tt:Int
 nd:Nat
 kl:List Da
 no:List Da
def JC.hp (c:JC):List Ob:=[.box [.p (.slice 4 c.tk),.p (.int .i64 c.ps),.p (.int .i64 c.en),.p (.int .i64 c.aT),.p (.int .i64 c.er),.p (.int .i64 c.ne),.p (.int .i64 c.tt),.arr 2 0 c.nd 8],.fz c.kl,.arr c.no]
noncomputable def si (o:List Ob)(k:JC→R):R:=ae o fun a1 r2=>cn a1 fun l3=>ae l3 fun d4 l5=>dP d4 fun x6=>gU 4 x6 fun tk=>ae l5 fun d7 l8=>dP d7 fun x9=>ar .i64 x9 fun ps=>ae l8 fun d10 l11=>dP d10 fun x12=>ar .i64 x12 fun en=>ae l11 fun d13 l14=>dP d13 fun x15=>ar .i64 x15 fun aT=>ae l14 fun d16 l17=>dP d16 fun x18=>ar .i64 x18 fun er=>ae l17 fun d19 l20=>dP d19 fun x21=>ar .i64 x21 fun ne=>ae l20 fun d22 l23=>dP d22 fun x24=>ar .i64 x24 fun tt=>ae l23 fun d25 l26=>hU 2 8 d25 fun nd=>aA l26<|ae r2 fun a27 r28=>U9 a27 fun kl=>ae r28 fun a29 r30=>gp a29 fun no=>aA r30<|k ⟨tk,ps,en,aT,er,ne,tt,nd,kl,no⟩
theorem LM {o:List Ob}{k:JC→R}{Z:R}(h:∀c:JC,o=c.hp→Le (k c) Z):Le (si o k) Z:=by
 unfold si;refine ab fun _ _ q=>?_;subst q;refine aZ fun _ q=>?_;subst q;refine ab fun _ _ q=>?_;subst q;refine aq fun _ q=>?_;subst q;refine bp fun _ q=>?_;subst q;refine ab fun _ _ q=>?_;subst q;refine aq fun _ q=>?_;subst q;refine ag fun _ q=>?_;subst q;refine ab fun _ _ q=>?_;subst q;refine aq fun _ q=>?_;subst q;refine ag fun _ q=>?_;subst q;refine ab fun _ _ q=>?_;subst q;refine aq fun _ q=>?_;subst q;refine ag fun _ q=>?_;subst q;refine ab fun _ _ q=>?_;subst q;refine aq fun _ q=>?_;subst q;refine ag fun _ q=>?_;subst q;refine ab fun _ _ q=>?_;subst q;refine aq fun _ q=>?_;subst q;refine ag fun _ q=>?_;subst q;refine ab fun _ _ q=>?_;subst q;refine aq fun _ q=>?_;subst q;refine ag fun _ q=>?_;subst q;refine ab fun _ _ q=>?_;subst q;refine bL fun _ q=>?_;subst q;refine aB fun q=>?_;subst q;refine ab fun _ _ q=>?_;subst q;refine Nd fun _ q=>?_;subst q;refine ab fun _ _ q=>?_;subst q;refine bO fun _ q=>?_;subst q;refine aB fun q=>?_;subst q;exact h ⟨_,_,_,_,_,_,_,_,_,_⟩ rfl
structure Oc where
 tk:List Da
 ps:Int
 en:Int
 aT:Int
 er:Int
 ne:Int
 tt:Int
 nd:List Da
 mn:List Nat
 mp:Nat
 mr:Int
 pl:List Da
def Oc.hp (c:Oc):List Ob:=[.box [.box 1 0],.box [.p (.slice 4 c.tk),.p (.int .i64 c.ps),.p (.int .i64 c.en),.p (.int .i64 c.aT),.p (.int .i64 c.er),.p (.int .i64 c.ne),.p (.int .i64 c.tt),.p (.slice 8 c.nd)],.box [.p (.str c.mn),.arr 4 0 c.mp 2,.p (.int .i64 c.mr),.sl .nil 8 []],.dead,.arr c.pl]
noncomputable def sh (o:List Ob)(k:Oc→R):R:=ae o fun a1 r2=>cn a1 fun l3=>ae l3 fun d4 l5=>mm 1 0 d4<|aA l5<|ae r2 fun a6 r7=>cn a6 fun l8=>ae l8 fun d9 l10=>dP d9 fun x11=>gU 4 x11 fun tk=>ae l10 fun d12 l13=>dP d12 fun x14=>ar .i64 x14 fun ps=>ae l13 fun d15 l16=>dP d15 fun x17=>ar .i64 x17 fun en=>ae l16 fun d18 l19=>dP d18 fun x20=>ar .i64 x20 fun aT=>ae l19 fun d21 l22=>dP d21 fun x23=>ar .i64 x23 fun er=>ae l22 fun d24 l25=>dP d24 fun x26=>ar .i64 x26 fun ne=>ae l25 fun d27 l28=>dP d27 fun x29=>ar .i64 x29 fun tt=>ae l28 fun d30 l31=>dP d30 fun x32=>gU 8 x32 fun nd=>aA l31<|ae r7 fun a33 r34=>cn a33 fun l35=>ae l35 fun d36 l37=>dP d36 fun x38=>cr x38 fun mn=>ae l37 fun d39 l40=>hU 4 2 d39 fun mp=>ae l40 fun d41 l42=>dP d41 fun x43=>ar .i64 x43 fun mr=>ae l42 fun d44 l45=>Gs 8 d44<|aA l45<|ae r34 fun a46 r47=>qf a46<|ae r47 fun a48 r49=>gp a48 fun pl=>aA r49<|k ⟨tk,ps,en,aT,er,ne,tt,nd,mn,mp,mr,pl⟩
theorem LL {o:List Ob}{k:Oc→R}{Z:R}(h:∀c:Oc,o=c.hp→Le (k c) Z):Le (sh o k) Z:=by
 unfold sh;refine ab fun _ _ q=>?_;subst q;refine aZ fun _ q=>?_;subst q;refine ab fun _ _ q=>?_;subst q;refine cP fun q=>?_;subst q;refine aB fun q=>?_;subst q;refine ab fun _ _ q=>?_;subst q;refine aZ fun _ q=>?_;subst q;refine ab fun _ _ q=>?_;subst q;refine aq fun _ q=>?_;subst q;refine bp fun _ q=>?_;subst q;refine ab fun _ _ q=>?_;subst q;refine aq fun _ q=>?_;subst q;refine ag fun _ q=>?_;subst q;refine ab fun _ _ q=>?_;subst q;refine aq fun _ q=>?_;subst q;refine ag fun _ q=>?_;subst q;refine ab fun _ _ q=>?_;subst q;refine aq fun _ q=>?_;subst q;refine ag fun _ q=>?_;subst q;refine ab fun _ _ q=>?_;subst q;refine aq fun _ q=>?_;subst q;refine ag fun _ q=>?_;subst q;refine ab fun _ _ q=>?_;subst q;refine aq fun _ q=>?_;subst q;refine ag fun _ q=>?_;subst q;refine ab fun _ _ q=>?_;subst q;refine aq fun _ q=>?_;subst q;refine ag fun _ q=>?_;subst q;refine ab fun _ _ q=>?_;subst q;refine aq fun _ q=>?_;subst q;refine bp fun _ q=>?_;subst q;refine aB fun q=>?_;subst q;refine ab fun _ _ q=>?_;subst q;refine aZ fun _ q=>?_;subst q;refine ab fun _ _ q=>?_;subst q;refine aq fun _ q=>?_;subst q;refine bM fun _ q=>?_;subst q;refine ab fun _ _ q=>?_;subst q;refine bL fun _ q=>?_;subst q;refine ab fun _ _ q=>?_;subst q;refine aq fun _ q=>?_;subst q;refine ag fun _ q=>?_;subst q;refine ab fun _ _ q=>?_;subst q;refine gX fun q=>?_;subst q;refine aB fun q=>?_;subst q;refine ab fun _ _ q=>?_;subst q;refine gQ fun q=>?_;subst q;refine ab fun _ _ q=>?_;subst q;refine bO fun _ q=>?_;subst q;refine aB fun q=>?_;subst q;exact h ⟨_,_,_,_,_,_,_,_,_,_,_,_⟩ rfl
def Vb:Ob→List D| .box cs=>cs|_=>[]
def TX:D→Bool| .arr _ _ _ _=>true|_=>false
def NV (hi:List Ob):Nat:=bif TX ((Vb (hi.getD 1 .dead)).headD .junk)then 0 else bif Nat.beq (Vb (hi.getD 2 .dead)).length 4 then 5 else bif TX ((Vb (hi.getD 2 .dead)).getD 3 .junk)then(bif Nat.beq hi.length 5 then 1 else 3)else(bif Nat.beq hi.length 5 then 2 else 4)
noncomputable def R7 (hi:List Ob)(v:D)(o:List Ob)(k:KV):R:=aY v fun r=>aA r<|bif Nat.beq (NV hi) 0 then Cd o fun c=>k (.tup []) c.hp else bif Nat.beq (NV hi) 1 then zV o fun c=>k (.tup []) c.hp else bif Nat.beq (NV hi) 2 then zW o fun c=>k (.tup []) c.hp else bif Nat.beq (NV hi) 3 then vj o fun c=>k (.tup []) c.hp else bif Nat.beq (NV hi) 4 then vm o fun c=>k (.tup []) c.hp else Cc o fun c=>k (.tup []) c.hp
theorem O5 (hi:List Ob)(v:D)(o:List Ob)(k:KV):Le (R7 hi v o k) (k v o):=by
 unfold R7;refine eR fun _ q=>?_;subst q;refine aB fun q=>?_;subst q
 cases Nat.beq (NV hi) 0<;>simp only[cond_true,cond_false];rotate_left
 ·exact LQ fun c q=>by subst q;exact Le.refl _
 cases Nat.beq (NV hi) 1<;>simp only[cond_true,cond_false];rotate_left
 ·exact Iw fun c q=>by subst q;exact Le.refl _
 cases Nat.beq (NV hi) 2<;>simp only[cond_true,cond_false];rotate_left
 ·exact Iy fun c q=>by subst q;exact Le.refl _
 cases Nat.beq (NV hi) 3<;>simp only[cond_true,cond_false];rotate_left
 ·exact Iz fun c q=>by subst q;exact Le.refl _
 cases Nat.beq (NV hi) 4<;>simp only[cond_true,cond_false];rotate_left
 ·exact IA fun c q=>by subst q;exact Le.refl _
 exact LP fun c q=>by subst q;exact Le.refl _
def PZ:D→Bool| .p .nilif=>true|_=>false
noncomputable def R8 (hi:List Ob)(v:D)(o:List Ob)(k:KV):R:=aY v fun r0=>ae r0 fun d0 r1=>ae r1 fun d1 r2=>aA r2<|aA o<|iL (PZ d1) (jJ (.p .nilif) d1<|dP d0 fun x0=>ar .i64 x0 fun a0=>k (.tup [.p (.int .i64 a0),.p .nilif]) []) (jJ (.iface 149 .junk) d1<|jJ .junk d0<|k (.tup [.junk,.iface 149 .junk]) [])
theorem O6 (hi:List Ob)(v:D)(o:List Ob)(k:KV):Le (R8 hi v o k) (k v o):=by
 unfold R8;refine eR fun _ q=>?_;subst q;refine ab fun d0 _ q=>?_;subst q;refine ab fun d1 _ q=>?_;subst q;refine aB fun q=>?_;subst q;refine aB fun q=>?_;subst q
 refine Le.two (fun _=>?_) (fun _=>?_)
 ·refine rj fun q=>?_;cases q;refine aq fun _ q=>?_;subst q;refine ag fun _ q=>?_;subst q;exact Le.refl _
 ·refine rj fun q=>?_;cases q;refine rj fun q=>?_;cases q;exact Le.refl _
noncomputable def UM (hi:List Ob)(v:D)(o:List Ob)(k:KV):R:=dP v fun x0=>aF x0 fun a0=>iU hi o fun o=>k (.p (.bool a0)) o
theorem R5 (hi:List Ob)(v:D)(o:List Ob)(k:KV):Le (UM hi v o k) (k v o):=by
 unfold UM;refine aq fun _ q=>?_;subst q;refine gN fun _ q=>?_;subst q;exact fm hi o (Le.refl _)
noncomputable def RU (hi:List Ob)(v:D)(o:List Ob)(k:KV):R:=aY v fun r0=>ae r0 fun d0 r1=>dP d0 fun x0=>cK x0 fun a0=>ae r1 fun d1 r2=>dP d1 fun x1=>ar .i64 x1 fun a1=>ae r2 fun d2 r3=>dP d2 fun x2=>ar .i64 x2 fun a2=>aA r3<|iU hi o fun o=>k (.tup [.p (a0.e),.p (.int .i64 a1),.p (.int .i64 a2)]) o
theorem OQ (hi:List Ob)(v:D)(o:List Ob)(k:KV):Le (RU hi v o k) (k v o):=by
 unfold RU;refine eR fun _ q=>?_;subst q;refine ab fun _ _ q=>?_;subst q;refine aq fun _ q=>?_;subst q;refine rk fun _ q=>?_;subst q;refine ab fun _ _ q=>?_;subst q;refine aq fun _ q=>?_;subst q;refine ag fun _ q=>?_;subst q;refine ab fun _ _ q=>?_;subst q;refine aq fun _ q=>?_;subst q;refine ag fun _ q=>?_;subst q;refine aB fun q=>?_;subst q;exact fm hi o (Le.refl _)
noncomputable def RV (hi:List Ob)(v:D)(o:List Ob)(k:KV):R:=aY v fun r0=>ae r0 fun d0 r1=>dP d0 fun x0=>gU 4 x0 fun a0=>ae r1 fun d1 r2=>dP d1 fun x1=>ar .i64 x1 fun a1=>ae r2 fun d2 r3=>dP d2 fun x2=>ar .i64 x2 fun a2=>aA r3<|iU hi o fun o=>k (.tup [.p (.slice 4 a0),.p (.int .i64 a1),.p (.int .i64 a2)]) o
theorem OS (hi:List Ob)(v:D)(o:List Ob)(k:KV):Le (RV hi v o k) (k v o):=by
 unfold RV;refine eR fun _ q=>?_;subst q;refine ab fun _ _ q=>?_;subst q;refine aq fun _ q=>?_;subst q;refine bp fun _ q=>?_;subst q;refine ab fun _ _ q=>?_;subst q;refine aq fun _ q=>?_;subst q;refine ag fun _ q=>?_;subst q;refine ab fun _ _ q=>?_;subst q;refine aq fun _ q=>?_;subst q;refine ag fun _ q=>?_;subst q;refine aB fun q=>?_;subst q;exact fm hi o (Le.refl _)
noncomputable def RW (hi:List Ob)(v:D)(o:List Ob)(k:KV):R:=dP v fun x0=>ar .i64 x0 fun a0=>iU hi o fun o=>k (.p (.int .i64 a0)) o
theorem OT (hi:List Ob)(v:D)(o:List Ob)(k:KV):Le (RW hi v o k) (k v o):=by
 unfold RW;refine aq fun _ q=>?_;subst q;refine ag fun _ q=>?_;subst q;exact fm hi o (Le.refl _)
noncomputable def RX (hi:List Ob)(v:D)(o:List Ob)(k:KV):R:=aY v fun r0=>ae r0 fun d0 r1=>dP d0 fun x0=>aL x0 fun a0=>ae r1 fun d1 r2=>dP d1 fun x1=>ar .i64 x1 fun a1=>ae r2 fun d2 r3=>dP d2 fun x2=>ar .i64 x2 fun a2=>aA r3<|iU hi o fun o=>k (.tup [.p (a0.e),.p (.int .i64 a1),.p (.int .i64 a2)]) o
theorem OU (hi:List Ob)(v:D)(o:List Ob)(k:KV):Le (RX hi v o k) (k v o):=by
 unfold RX;refine eR fun _ q=>?_;subst q;refine ab fun _ _ q=>?_;subst q;refine aq fun _ q=>?_;subst q;refine iK fun _ q=>?_;subst q;refine ab fun _ _ q=>?_;subst q;refine aq fun _ q=>?_;subst q;refine ag fun _ q=>?_;subst q;refine ab fun _ _ q=>?_;subst q;refine aq fun _ q=>?_;subst q;refine ag fun _ q=>?_;subst q;refine aB fun q=>?_;subst q;exact fm hi o (Le.refl _)
noncomputable def RY (hi:List Ob)(v:D)(o:List Ob)(k:KV):R:=dP v fun x0=>aF x0 fun a0=>bif Nat.beq hi.length 1 then aK o fun c=>k (.p (.bool a0)) c.hp else bif Nat.beq hi.length 2 then av o fun c=>k (.p (.bool a0)) c.hp else k (.p (.bool a0)) o
theorem OV (hi:List Ob)(v:D)(o:List Ob)(k:KV):Le (RY hi v o k) (k v o):=by
 unfold RY;refine aq fun _ q=>?_;subst q;refine gN fun _ q=>?_;subst q;cases Nat.beq hi.length 1<;>simp only[cond_true,cond_false]
 rotate_left
 ·exact fG fun c q=>by subst q;exact Le.refl _
 cases Nat.beq hi.length 2<;>simp only[cond_true,cond_false];rotate_left
 ·exact dH fun c q=>by subst q;exact Le.refl _
 exact Le.refl _
noncomputable def RZ (hi:List Ob)(v:D)(o:List Ob)(k:KV):R:=aY v fun r0=>aA r0<|bif Nat.beq hi.length 1 then aK o fun c=>k (.tup []) c.hp else bif Nat.beq hi.length 2 then av o fun c=>k (.tup []) c.hp else k (.tup []) o
theorem OW (hi:List Ob)(v:D)(o:List Ob)(k:KV):Le (RZ hi v o k) (k v o):=by
 unfold RZ;refine eR fun _ q=>?_;subst q;refine aB fun q=>?_;subst q;cases Nat.beq hi.length 1<;>simp only[cond_true,cond_false]
 rotate_left
 ·exact fG fun c q=>by subst q;exact Le.refl _
 cases Nat.beq hi.length 2<;>simp only[cond_true,cond_false];rotate_left
 ·exact dH fun c q=>by subst q;exact Le.refl _
 exact Le.refl _
noncomputable def R0 (hi:List Ob)(v:D)(o:List Ob)(k:KV):R:=dP v fun x0=>bR x0 fun a0=>iU hi o fun o=>k (.p (a0.e)) o
theorem OX (hi:List Ob)(v:D)(o:List Ob)(k:KV):Le (R0 hi v o k) (k v o):=by
 unfold R0;refine aq fun _ q=>?_;subst q;refine dz fun _ q=>?_;subst q;exact fm hi o (Le.refl _)
noncomputable def R1 (hi:List Ob)(v:D)(o:List Ob)(k:KV):R:=dP v fun x0=>aL x0 fun a0=>bif Nat.beq hi.length 1 then aK o fun c=>k (.p (a0.e)) c.hp else bif Nat.beq hi.length 2 then av o fun c=>k (.p (a0.e)) c.hp else k (.p (a0.e)) o
theorem OY (hi:List Ob)(v:D)(o:List Ob)(k:KV):Le (R1 hi v o k) (k v o):=by
 unfold R1;refine aq fun _ q=>?_;subst q;refine iK fun _ q=>?_;subst q;cases Nat.beq hi.length 1<;>simp only[cond_true,cond_false]
 rotate_left
 ·exact fG fun c q=>by subst q;exact Le.refl _
 cases Nat.beq hi.length 2<;>simp only[cond_true,cond_false];rotate_left
 ·exact dH fun c q=>by subst q;exact Le.refl _
 exact Le.refl _
noncomputable def R2 (hi:List Ob)(v:D)(o:List Ob)(k:KV):R:=dP v fun x0=>cr x0 fun a0=>bif Nat.beq hi.length 1 then aK o fun c=>k (.p (.str a0)) c.hp else bif Nat.beq hi.length 2 then av o fun c=>k (.p (.str a0)) c.hp else k (.p (.str a0)) o
theorem OZ (hi:List Ob)(v:D)(o:List Ob)(k:KV):Le (R2 hi v o k) (k v o):=by
 unfold R2;refine aq fun _ q=>?_;subst q;refine bM fun _ q=>?_;subst q;cases Nat.beq hi.length 1<;>simp only[cond_true,cond_false]
 rotate_left
 ·exact fG fun c q=>by subst q;exact Le.refl _
 cases Nat.beq hi.length 2<;>simp only[cond_true,cond_false];rotate_left
 ·exact dH fun c q=>by subst q;exact Le.refl _
 exact Le.refl _
noncomputable def R3 (hi:List Ob)(v:D)(o:List Ob)(k:KV):R:=dP v fun x0=>dq x0 fun a0=>aK o fun c=>k (.p (a0.e)) c.hp
theorem O0 (hi:List Ob)(v:D)(o:List Ob)(k:KV):Le (R3 hi v o k) (k v o):=by
 unfold R3;refine aq fun _ q=>?_;subst q;refine fH fun _ q=>?_;subst q;exact fG fun c q=>by subst q;exact Le.refl _
noncomputable def R4 (hi:List Ob)(v:D)(o:List Ob)(k:KV):R:=dP v fun x0=>fI x0 fun a0=>aK o fun c=>k (.p (a0.e)) c.hp
theorem O3 (hi:List Ob)(v:D)(o:List Ob)(k:KV):Le (R4 hi v o k) (k v o):=by
 unfold R4;refine aq fun _ q=>?_;subst q;refine tf fun _ q=>?_;subst q;exact fG fun c q=>by subst q;exact Le.refl _
noncomputable def R6 (hi:List Ob)(v:D)(o:List Ob)(k:KV):R:=aY v fun r0=>ae r0 fun d0 r1=>dP d0 fun x0=>ar .u8 x0 fun a0=>ae r1 fun d1 r2=>dP d1 fun x1=>ar .i64 x1 fun a1=>aA r2<|iU hi o fun o=>k (.tup [.p (.int .u8 a0),.p (.int .i64 a1)]) o
theorem O4 (hi:List Ob)(v:D)(o:List Ob)(k:KV):Le (R6 hi v o k) (k v o):=by
 unfold R6;refine eR fun _ q=>?_;subst q;refine ab fun _ _ q=>?_;subst q;refine aq fun _ q=>?_;subst q;refine ag fun _ q=>?_;subst q;refine ab fun _ _ q=>?_;subst q;refine aq fun _ q=>?_;subst q;refine ag fun _ q=>?_;subst q;refine aB fun q=>?_;subst q;exact fm hi o (Le.refl _)
noncomputable def K1 (hi:List Ob)(v:D)(o:List Ob)(k:KV):R:=dP v fun x0=>ar .i64 x0 fun a0=>bif Nat.beq hi.length 1 then aK o fun c=>k (.p (.int .i64 a0)) c.hp else bif Nat.beq hi.length 2 then av o fun c=>k (.p (.int .i64 a0)) c.hp else k (.p (.int .i64 a0)) o
theorem K2 (hi:List Ob)(v:D)(o:List Ob)(k:KV):Le (K1 hi v o k) (k v o):=by
 unfold K1;refine aq fun _ q=>?_;subst q;refine ag fun _ q=>?_;subst q;cases Nat.beq hi.length 1<;>simp only[cond_true,cond_false]
 rotate_left
 ·exact fG fun c q=>by subst q;exact Le.refl _
 cases Nat.beq hi.length 2<;>simp only[cond_true,cond_false];rotate_left
 ·exact dH fun c q=>by subst q;exact Le.refl _
 exact Le.refl _
noncomputable def K3 (hi:List Ob)(v:D)(o:List Ob)(k:KV):R:=dP v fun x0=>cC x0 fun a0=>bif Nat.beq hi.length 1 then aK o fun c=>k (.p (a0.e)) c.hp else bif Nat.beq hi.length 2 then av o fun c=>k (.p (a0.e)) c.hp else k (.p (a0.e)) o
theorem K4 (hi:List Ob)(v:D)(o:List Ob)(k:KV):Le (K3 hi v o k) (k v o):=by
 unfold K3;refine aq fun _ q=>?_;subst q;refine fJ fun _ q=>?_;subst q;cases Nat.beq hi.length 1<;>simp only[cond_true,cond_false]
 rotate_left
 ·exact fG fun c q=>by subst q;exact Le.refl _
 cases Nat.beq hi.length 2<;>simp only[cond_true,cond_false];rotate_left
 ·exact dH fun c q=>by subst q;exact Le.refl _
 exact Le.refl _
noncomputable def K5 (hi:List Ob)(v:D)(o:List Ob)(k:KV):R:=dP v fun x0=>aF x0 fun a0=>sj o fun c=>k (.p (.bool a0)) c.hp
theorem K6 (hi:List Ob)(v:D)(o:List Ob)(k:KV):Le (K5 hi v o k) (k v o):=by
 unfold K5;refine aq fun _ q=>?_;subst q;refine gN fun _ q=>?_;subst q;exact Ce fun c q=>by subst q;exact Le.refl _
noncomputable def K7 (hi:List Ob)(v:D)(o:List Ob)(k:KV):R:=aY v fun r0=>aA r0<|sh o fun c=>k (.tup []) c.hp
theorem K8 (hi:List Ob)(v:D)(o:List Ob)(k:KV):Le (K7 hi v o k) (k v o):=by
 unfold K7;refine eR fun _ q=>?_;subst q;refine aB fun q=>?_;subst q;exact LL fun c q=>by subst q;exact Le.refl _
noncomputable def K9 (hi:List Ob)(v:D)(o:List Ob)(k:KV):R:=dP v fun x0=>ar .i64 x0 fun a0=>av o fun c=>k (.p (.int .i64 a0)) c.hp
theorem La (hi:List Ob)(v:D)(o:List Ob)(k:KV):Le (K9 hi v o k) (k v o):=by
 unfold K9;refine aq fun _ q=>?_;subst q;refine ag fun _ q=>?_;subst q;exact dH fun c q=>by subst q;exact Le.refl _
noncomputable def Lb (hi:List Ob)(v:D)(o:List Ob)(k:KV):R:=dP v fun x0=>aF x0 fun a0=>bif Nat.beq hi.length 2 then sj o fun c=>k (.p (.bool a0)) c.hp else bif Nat.beq hi.length 3 then LS o fun c=>k (.p (.bool a0)) c.hp else k (.p (.bool a0)) o
theorem Lc (hi:List Ob)(v:D)(o:List Ob)(k:KV):Le (Lb hi v o k) (k v o):=by
 unfold Lb;refine aq fun _ q=>?_;subst q;refine gN fun _ q=>?_;subst q;cases Nat.beq hi.length 2<;>simp only[cond_true,cond_false]
 rotate_left
 ·exact Ce fun c q=>by subst q;exact Le.refl _
 cases Nat.beq hi.length 3<;>simp only[cond_true,cond_false];rotate_left
 ·exact LT fun c q=>by subst q;exact Le.refl _
 exact Le.refl _
noncomputable def Ld (hi:List Ob)(v:D)(o:List Ob)(k:KV):R:=aY v fun r0=>aA r0<|bif Nat.beq hi.length 4 then sf o fun c=>k (.tup []) c.hp else bif Nat.beq hi.length 5 then LF o fun c=>k (.tup []) c.hp else k (.tup []) o
theorem Lg (hi:List Ob)(v:D)(o:List Ob)(k:KV):Le (Ld hi v o k) (k v o):=by
 unfold Ld;refine eR fun _ q=>?_;subst q;refine aB fun q=>?_;subst q;cases Nat.beq hi.length 4<;>simp only[cond_true,cond_false]
 rotate_left
 ·exact LJ fun c q=>by subst q;exact Le.refl _
 cases Nat.beq hi.length 5<;>simp only[cond_true,cond_false];rotate_left
 ·exact LG fun c q=>by subst q;exact Le.refl _
 exact Le.refl _
noncomputable def Lh (hi:List Ob)(v:D)(o:List Ob)(k:KV):R:=aY v fun r0=>aA r0<|bif Nat.beq hi.length 4 then sg o fun c=>k (.tup []) c.hp else bif Nat.beq hi.length 5 then LH o fun c=>k (.tup []) c.hp else k (.tup []) o
theorem Li (hi:List Ob)(v:D)(o:List Ob)(k:KV):Le (Lh hi v o k) (k v o):=by
 unfold Lh;refine eR fun _ q=>?_;subst q;refine aB fun q=>?_;subst q;cases Nat.beq hi.length 4<;>simp only[cond_true,cond_false]
 rotate_left
 ·exact LK fun c q=>by subst q;exact Le.refl _
 cases Nat.beq hi.length 5<;>simp only[cond_true,cond_false];rotate_left
 ·exact LI fun c q=>by subst q;exact Le.refl _
 exact Le.refl _
noncomputable def Lj (hi:List Ob)(v:D)(o:List Ob)(k:KV):R:=aY v fun r0=>aA r0<|av o fun c=>k (.tup []) c.hp
theorem Lk (hi:List Ob)(v:D)(o:List Ob)(k:KV):Le (Lj hi v o k) (k v o):=by
 unfold Lj;refine eR fun _ q=>?_;subst q;refine aB fun q=>?_;subst q;exact dH fun c q=>by subst q;exact Le.refl _
noncomputable def Ll (hi:List Ob)(v:D)(o:List Ob)(k:KV):R:=dP v fun x0=>ar .i64 x0 fun a0=>bif Nat.beq hi.length 2 then av o fun c=>k (.p (.int .i64 a0)) c.hp else bif Nat.beq hi.length 3 then si o fun c=>k (.p (.int .i64 a0)) c.hp else k (.p (.int .i64 a0)) o
theorem Lm (hi:List Ob)(v:D)(o:List Ob)(k:KV):Le (Ll hi v o k) (k v o):=by
 unfold Ll;refine aq fun _ q=>?_;subst q;refine ag fun _ q=>?_;subst q;cases Nat.beq hi.length 2<;>simp only[cond_true,cond_false]
 rotate_left
 ·exact dH fun c q=>by subst q;exact Le.refl _
 cases Nat.beq hi.length 3<;>simp only[cond_true,cond_false];rotate_left
 ·exact LM fun c q=>by subst q;exact Le.refl _
 exact Le.refl _
noncomputable def Ln (hi:List Ob)(v:D)(o:List Ob)(k:KV):R:=dP v fun x0=>gU 1 x0 fun a0=>av o fun c=>k (.p (.slice 1 a0)) c.hp
theorem Lo (hi:List Ob)(v:D)(o:List Ob)(k:KV):Le (Ln hi v o k) (k v o):=by
 unfold Ln;refine aq fun _ q=>?_;subst q;refine bp fun _ q=>?_;subst q;exact dH fun c q=>by subst q;exact Le.refl _
noncomputable def Lp (hi:List Ob)(v:D)(o:List Ob)(k:KV):R:=dP v fun x0=>aF x0 fun a0=>av o fun c=>k (.p (.bool a0)) c.hp
theorem Lq (hi:List Ob)(v:D)(o:List Ob)(k:KV):Le (Lp hi v o k) (k v o):=by
 unfold Lp;refine aq fun _ q=>?_;subst q;refine gN fun _ q=>?_;subst q;exact dH fun c q=>by subst q;exact Le.refl _
noncomputable def Lr (hi:List Ob)(v:D)(o:List Ob)(k:KV):R:=aY v fun r0=>aA r0<|Cb o fun c=>k (.tup []) c.hp
theorem Ls (hi:List Ob)(v:D)(o:List Ob)(k:KV):Le (Lr hi v o k) (k v o):=by
 unfold Lr;refine eR fun _ q=>?_;subst q;refine aB fun q=>?_;subst q;exact LO fun c q=>by subst q;exact Le.refl _
noncomputable def TG (f:Nat)(hi:List Ob)(v:D)(o:List Ob)(k:KV):R:=bif Nat.beq f 104 then R7 hi v o k else bif Nat.beq f 97 then R8 hi v o k else bif bU f [7,16,47,66,68,69,78,79,91,96,99,115]then UM hi v o k else bif bU f [11,14]then RU hi v o k else bif bU f [13]then RV hi v o k else bif bU f [40,46,55,65,67,72,95,114]then RW hi v o k else bif bU f [41,70,71]then RX hi v o k else bif bU f [42,43,100]then RY hi v o k else bif bU f [44,74]then RZ hi v o k else bif bU f [45]then R0 hi v o k else bif bU f [73,101]then R1 hi v o k else bif bU f [75]then R2 hi v o k else bif bU f [76]then R3 hi v o k else bif bU f [77]then R4 hi v o k else bif bU f [98]then R6 hi v o k else bif bU f [102,118]then K1 hi v o k else bif bU f [103]then K3 hi v o k else bif bU f [105]then K5 hi v o k else bif bU f [106]then K7 hi v o k else bif bU f [107,122,131,132,133,134,135,146,147,155,156,159,160,161,162]then K9 hi v o k else bif bU f [116,119]then Lb hi v o k else bif bU f [117]then Ld hi v o k else bif bU f [120]then Lh hi v o k else bif bU f [121,124]then Lj hi v o k else bif bU f [123]then Ll hi v o k else bif bU f [136,145]then Ln hi v o k else bif bU f [153]then Lp hi v o k else bif bU f [154]then Lr hi v o k else k v o
noncomputable def T5 (z:D)(x:Da)(k:Da→R):R:=match z with| .p (.int i _)=>ar i x fun n=>k (.int i n)| .p (.bool _)=>aF x fun b=>k (.bool b)| .p (.agg cs)=>k x|_=>k x
noncomputable def UW (z:Nat)(x:Da)(k:Da→R):R:=bif Nat.beq z 8 then ei x fun t=>k t.e else bif Nat.beq z 3 then bR x fun t=>k t.e else bif Nat.beq z 7 then dq x fun t=>k t.e else bif Nat.beq z 2 then gO x fun t=>k t.e else bif Nat.beq z 5 then cC x fun t=>k t.e else bif Nat.beq z 1 then ar .i64 x fun i=>k (.int .i64 i)else bif Nat.beq z 0 then ar .i64 x fun i=>k (.int .i64 i)else k x
noncomputable def Sm (z:Nat)(x:Da)(k:Da→R):R:=bif Nat.beq z 8 then ei x fun t=>k t.e else bif Nat.beq z 3 then bR x fun t=>k t.e else bif Nat.beq z 7 then dq x fun t=>k t.e else bif Nat.beq z 2 then gO x fun t=>k t.e else bif Nat.beq z 5 then cC x fun t=>k t.e else bif Nat.beq z 4 then aL x fun t=>k t.e else bif Nat.beq z 1 then cr x fun s=>k (.str s)else bif Nat.beq z 0 then cr x fun s=>k (.str s)else k x
noncomputable def UV (z:Nat)(x:Da)(k:Da→R):R:=bif Nat.beq z 8 then ei x fun t=>k t.e else bif Nat.beq z 3 then bR x fun t=>k t.e else bif Nat.beq z 7 then dq x fun t=>k t.e else bif Nat.beq z 2 then gO x fun t=>k t.e else bif Nat.beq z 5 then cC x fun t=>k t.e else bif Nat.beq z 1008 then ei x fun t=>k t.e else bif Nat.beq z 1001 then ar .i64 x fun i=>k (.int .i64 i)else bif Nat.beq z 1 then ar .i64 x fun i=>k (.int .i64 i)else bif Nat.beq z 0 then ar .i64 x fun i=>k (.int .i64 i)else k x
noncomputable def VK:jR:=⟨UW,TG,T5,false,true,false⟩
noncomputable def TM:jR:=⟨Sm,TG,T5,false,false,false⟩
noncomputable def UU:jR:=⟨UV,TG,T5,false,false,true⟩
theorem Sl (z:Nat)(x:Da)(k:Da→R):Le (UW z x k) (k x):=by
 unfold UW;cases Nat.beq z 8<;>simp only[cond_true,cond_false];rotate_left
 ·exact gz fun _ q=>by subst q;exact Le.refl _
 cases Nat.beq z 3<;>simp only[cond_true,cond_false];rotate_left
 ·exact dz fun _ q=>by subst q;exact Le.refl _
 cases Nat.beq z 7<;>simp only[cond_true,cond_false];rotate_left
 ·exact fH fun _ q=>by subst q;exact Le.refl _
 cases Nat.beq z 2<;>simp only[cond_true,cond_false];rotate_left
 ·exact iJ fun _ q=>by subst q;exact Le.refl _
 cases Nat.beq z 5<;>simp only[cond_true,cond_false];rotate_left
 ·exact fJ fun _ q=>by subst q;exact Le.refl _
 cases Nat.beq z 1<;>simp only[cond_true,cond_false];cases Nat.beq z 0<;>simp only[cond_true,cond_false]
 ·exact Le.refl _
 all_goals exact ag fun _ q=>by subst q;exact Le.refl _
theorem Px (z:Nat)(x:Da)(k:Da→R):Le (Sm z x k) (k x):=by
 unfold Sm;cases Nat.beq z 8<;>simp only[cond_true,cond_false];rotate_left
 ·exact gz fun _ q=>by subst q;exact Le.refl _
 cases Nat.beq z 3<;>simp only[cond_true,cond_false];rotate_left
 ·exact dz fun _ q=>by subst q;exact Le.refl _
 cases Nat.beq z 7<;>simp only[cond_true,cond_false];rotate_left
 ·exact fH fun _ q=>by subst q;exact Le.refl _
 cases Nat.beq z 2<;>simp only[cond_true,cond_false];rotate_left
 ·exact iJ fun _ q=>by subst q;exact Le.refl _
 cases Nat.beq z 5<;>simp only[cond_true,cond_false];rotate_left
 ·exact fJ fun _ q=>by subst q;exact Le.refl _
 cases Nat.beq z 4<;>simp only[cond_true,cond_false];rotate_left
 ·exact iK fun _ q=>by subst q;exact Le.refl _
 cases Nat.beq z 1<;>simp only[cond_true,cond_false];cases Nat.beq z 0<;>simp only[cond_true,cond_false]
 ·exact Le.refl _
 all_goals exact bM fun _ q=>by subst q;exact Le.refl _
theorem Sk (z:Nat)(x:Da)(k:Da→R):Le (UV z x k) (k x):=by
 unfold UV;cases Nat.beq z 8<;>simp only[cond_true,cond_false];rotate_left
 ·exact gz fun _ q=>by subst q;exact Le.refl _
 cases Nat.beq z 3<;>simp only[cond_true,cond_false];rotate_left
 ·exact dz fun _ q=>by subst q;exact Le.refl _
 cases Nat.beq z 7<;>simp only[cond_true,cond_false];rotate_left
 ·exact fH fun _ q=>by subst q;exact Le.refl _
 cases Nat.beq z 2<;>simp only[cond_true,cond_false];rotate_left
 ·exact iJ fun _ q=>by subst q;exact Le.refl _
 cases Nat.beq z 5<;>simp only[cond_true,cond_false];rotate_left
 ·exact fJ fun _ q=>by subst q;exact Le.refl _
 cases Nat.beq z 1008<;>simp only[cond_true,cond_false];rotate_left
 ·exact gz fun _ q=>by subst q;exact Le.refl _
 cases Nat.beq z 1001<;>simp only[cond_true,cond_false];rotate_left
 ·exact ag fun _ q=>by subst q;exact Le.refl _
 cases Nat.beq z 1<;>simp only[cond_true,cond_false];cases Nat.beq z 0<;>simp only[cond_true,cond_false]
 ·exact Le.refl _
 all_goals exact ag fun _ q=>by subst q;exact Le.refl _
theorem EG (f:Nat)(hi:List Ob)(v:D)(o:List Ob)(k:KV):Le (TG f hi v o k) (k v o):=by
 unfold TG;cases Nat.beq f 104<;>simp only[cond_true,cond_false];rotate_left
 ·exact O5 hi v o k
 cases Nat.beq f 97<;>simp only[cond_true,cond_false];rotate_left
 ·exact O6 hi v o k
 cases bU f _<;>simp only[cond_true,cond_false];rotate_left
 ·exact R5 hi v o k
 cases bU f _<;>simp only[cond_true,cond_false];rotate_left
 ·exact OQ hi v o k
 cases bU f _<;>simp only[cond_true,cond_false];rotate_left
 ·exact OS hi v o k
 cases bU f _<;>simp only[cond_true,cond_false];rotate_left
 ·exact OT hi v o k
 cases bU f _<;>simp only[cond_true,cond_false];rotate_left
 ·exact OU hi v o k
 cases bU f _<;>simp only[cond_true,cond_false];rotate_left
 ·exact OV hi v o k
 cases bU f _<;>simp only[cond_true,cond_false];rotate_left
 ·exact OW hi v o k
 cases bU f _<;>simp only[cond_true,cond_false];rotate_left
 ·exact OX hi v o k
 cases bU f _<;>simp only[cond_true,cond_false];rotate_left
 ·exact OY hi v o k
 cases bU f _<;>simp only[cond_true,cond_false];rotate_left
 ·exact OZ hi v o k
 cases bU f _<;>simp only[cond_true,cond_false];rotate_left
 ·exact O0 hi v o k
 cases bU f _<;>simp only[cond_true,cond_false];rotate_left
 ·exact O3 hi v o k
 cases bU f _<;>simp only[cond_true,cond_false];rotate_left
 ·exact O4 hi v o k
 cases bU f _<;>simp only[cond_true,cond_false];rotate_left
 ·exact K2 hi v o k
 cases bU f _<;>simp only[cond_true,cond_false];rotate_left
 ·exact K4 hi v o k
 cases bU f _<;>simp only[cond_true,cond_false];rotate_left
 ·exact K6 hi v o k
 cases bU f _<;>simp only[cond_true,cond_false];rotate_left
 ·exact K8 hi v o k
 cases bU f _<;>simp only[cond_true,cond_false];rotate_left
 ·exact La hi v o k
 cases bU f _<;>simp only[cond_true,cond_false];rotate_left
 ·exact Lc hi v o k
 cases bU f _<;>simp only[cond_true,cond_false];rotate_left
 ·exact Lg hi v o k
 cases bU f _<;>simp only[cond_true,cond_false];rotate_left
 ·exact Li hi v o k
 cases bU f _<;>simp only[cond_true,cond_false];rotate_left
 ·exact Lk hi v o k
 cases bU f _<;>simp only[cond_true,cond_false];rotate_left
 ·exact Lm hi v o k
 cases bU f _<;>simp only[cond_true,cond_false];rotate_left
 ·exact Lo hi v o k
 cases bU f _<;>simp only[cond_true,cond_false];rotate_left
 ·exact Lq hi v o k
 cases bU f _<;>simp only[cond_true,cond_false];rotate_left
 ·exact Ls hi v o k
 exact Le.refl _
theorem Fj (z:D)(x:Da)(k:Da→R):Le (T5 z x k) (k x):=by
 unfold T5;split
 ·exact ag fun _ q=>by subst q;exact Le.refl _
 ·exact gN fun _ q=>by subst q;exact Le.refl _
 ·skip
  exact Le.refl _
 ·exact Le.refl _
theorem bN:(VK).Ok:=⟨Sl,EG,Fj⟩
theorem au:(TM).Ok:=⟨Px,EG,Fj⟩
theorem zX:(UU).Ok:=⟨Sk,EG,Fj⟩
noncomputable def nC (f:Nat):Fx:=(IT prog0 globs0 Rh f).getD ⟨.skip,[],false⟩
theorem cE (lp:ah→fY)(F:ah→R){f n m:Nat}{dc:jR}{args:List D}{hp:List Ob}(hd:dc.Ok)(hx:lay0.tab f=some (.code (nC f)))(hm:dU f args hp.length=m)(hl:∀{cc:ah} {call:aC},cI cc call→∀e∈ci (nC f).body 1,bS (lp cc) call n m e)(h:∀cc,Qv m (lp cc) dc cc n (nC f) args hp=F cc):Le (F (bu lay0.tab n)) (evFn lay0.tab (n+1) f args hp):=
 TQ hd hx hm (hl (Mn _ _)) (h _)
end Go.Ab
