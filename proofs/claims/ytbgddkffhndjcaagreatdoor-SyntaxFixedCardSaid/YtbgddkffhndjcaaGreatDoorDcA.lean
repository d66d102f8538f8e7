import Derived.Test.YtbgddkffhndjcaaGreatDoorAl
import Derived.Test.YtbgddkffhndjcaaGreatDoorAwZ
import Derived.KernelRfl
set_option linter.all false
namespace Go.Ab
open Go
set_option maxRecDepth 100000
noncomputable section
class Iso (A B:Type) where
 f:A->B
 g:B->A
 h:∀a,g (f a)=a
section
variable {A B C D:Type}
instance (priority:=10) iso0:Iso A A:=⟨id,id,fun _=>rfl⟩
instance isoU [s:Iso A B]:Iso (A×Unit) B:=⟨fun a=>s.f a.1,fun b=>(s.g b,()),fun a=>by rw[s.h]⟩
instance (priority:=20) isoP [s:Iso A B][u:Iso C D]:Iso (A×C) (B×D):=⟨fun a=>(s.f a.1,u.f a.2),fun b=>(s.g b.1,u.g b.2),fun a=>by rw[s.h,u.h]⟩
instance (priority:=5) isoA {Z:Type}[s:Iso (A×B×C) Z]:Iso ((A×B)×C) Z:=⟨fun a=>s.f (a.1.1,a.1.2,a.2),fun z=>(((s.g z).1,(s.g z).2.1),(s.g z).2.2),fun a=>by rw[s.h]⟩
instance (priority:=30) isoN {Z:Type}[s:Iso C Z]:Iso (Unit×C) Z:=⟨fun a=>s.f a.2,fun z=>((),s.g z),fun a=>by rw[s.h]⟩
end
namespace Rd
variable {T α β:Type}
def tl (r:Rd T α)[s:Iso α β]:Rd T β:=r.rm s.f s.g s.h
def i (k:Nat)(r:Rd (Tm×List Go.Ab.Ob) β):=t k (P (I .i64)) r
def l (k z:Nat)(r:Rd (Tm×List Go.Ab.Ob) β):=t k (P (L z)) r
def b (k:Nat)(r:Rd (Tm×List Go.Ab.Ob) β):=t k (P B) r
def s (k:Nat)(r:Rd (Tm×List Go.Ab.Ob) β):=t k (P S) r
def o (k i:Nat)(r:Rd (Tm×List Go.Ab.Ob) β):=v k (Bo i 0) r
def ci (r:Rd (List D) β):=c (P (I .i64)) r
def cl (z:Nat)(r:Rd (List D) β):=c (P (L z)) r
def cs (r:Rd (List D) β):=c (P S) r
def co (i:Nat)(r:Rd (List D) β):=u (Bo i 0) r
def gi (r:Rd (LD) β):=c (I .i64) r
def gl (z:Nat)(r:Rd (LD) β):=c (L z) r
def gs (r:Rd (LD) β):=c S r
end Rd
abbrev pI (i:Int):D:= .p (.int .i64 i)
abbrev pL (z:Nat)(l:LD):D:= .p (.slice z l)
abbrev pS (s:LN):D:= .p (.str s)
abbrev pB (b:Bool):D:= .p (.bool b)
def tI (k:Nat)(i:Int)(r:Tm):Tm:= .cons k (.p (.int .i64 i)) r
def tL (k z:Nat)(l:LD)(r:Tm):Tm:= .cons k (.p (.slice z l)) r
def tS (k:Nat)(s:LN)(r:Tm):Tm:= .cons k (.p (.str s)) r
def tB (k:Nat)(b:Bool)(r:Tm):Tm:= .cons k (.p (.bool b)) r
def tO (k i:Nat)(r:Tm):Tm:= .cons k (.box i 0) r
abbrev rT:R:=some (.p (.bool true),[])
abbrev rF:R:=some (.p (.bool false),[])
def aM {ST:Type}{S:(ST->R)->ST->R}{q:Nat}{h:ST}:itL S (q+1) h=S (itL S q) h:=rfl
instance mvG:Mv:=⟨fun f=>eO f [123,135,147,156,159,160,161,162,133,131,136,134,132,122,107,145,146,104,58,24,62,27,63,57,22,56,25]⟩
def bF (hi o:List Ob)(k:R):R:= @ite _ (o=hi) (Classical.propDecidable _) k none
variable {Z:R}
def ZB {hi o:List Ob}{k:R}(h:o=hi->Le k Z):Le (bF hi o k) Z:=by
 unfold bF;split
 ·rename_i e;exact h e
 ·exact Le.no _
def dk (c d:D)(k:R):R:= @ite _ (d=c) (Classical.propDecidable _) k none
def nC {c d:D}{k:R}(h:d=c->Le k Z):Le (dk c d k) Z:=by
 unfold dk;split
 ·rename_i e;exact h e
 ·exact Le.no _
def nB (c:D)(k:R):dk c c k=k:=by
 unfold dk;exact if_pos rfl
def eg (hi:List Ob)(k:R):bF hi hi k=k:=by
 unfold bF;exact if_pos rfl
structure bL where
 Types:LD
def bL.e (t:bL):Da:= .agg [.slice 3 t.Types]
def bL.b (t:bL):Ob:= .box [.p (.slice 3 t.Types)]
instance:Iso (LD×Unit) bL:=⟨fun(Types,())=>⟨Types⟩,fun t=>(t.Types,()),fun _=>rfl⟩
def r_api_Program:Rd Da bL:= .tl<| .G (.gl 3 .n)
def jO (x:Da)(k:bL->R):R:=r_api_Program.d x k
structure bx where
 Kind:Int
 Text:LN
 (Num At:Int)
def bx.e (t:bx):Da:= .agg [.int .i64 t.Kind,.str t.Text,.int .i64 t.Num,.int .i64 t.At]
def bx.b (t:bx):Ob:= .box [.p (.int .i64 t.Kind),.p (.str t.Text),.p (.int .i64 t.Num),.p (.int .i64 t.At)]
instance:Iso (Int×LN×Int×Int×Unit) bx:=⟨fun(Kind,Text,Num,At,())=>⟨Kind,Text,Num,At⟩,fun t=>(t.Kind,t.Text,t.Num,t.At,()),fun _=>rfl⟩
def r_api_Token:Rd Da bx:= .tl<| .G (.gi<| .gs<| .gi<| .gi .n)
def aQ (x:Da)(k:bx->R):R:=r_api_Token.d x k
variable {x:Da}
def A4 {k:bx->R}(h:∀t:bx,x=t.e->Le (k t) Z):Le (aQ x k) Z:=r_api_Token.le _ _ _ h
structure ba where
 Name:LN
 (Fields Methods:LD)
def ba.e (t:ba):Da:= .agg [.str t.Name,.slice 7 t.Fields,.slice 4 t.Methods]
def ba.b (t:ba):Ob:= .box [.p (.str t.Name),.p (.slice 7 t.Fields),.p (.slice 4 t.Methods)]
instance:Iso (LN×LD×LD×Unit) ba:=⟨fun(Name,Fields,Methods,())=>⟨Name,Fields,Methods⟩,fun t=>(t.Name,t.Fields,t.Methods,()),fun _=>rfl⟩
def r_api_ActorType:Rd Da ba:= .tl<| .G (.gs<| .gl 7<| .gl 4 .n)
def bC (x:Da)(k:ba->R):R:=r_api_ActorType.d x k
def dy {k:ba->R}(h:∀t:ba,x=t.e->Le (k t) Z):Le (bC x k) Z:=r_api_ActorType.le _ _ _ h
structure aB where
 (Kind N:Int)
 S:LN
 (I L:LD)
def aB.e (t:aB):Da:= .agg [.int .i64 t.Kind,.int .i64 t.N,.str t.S,.slice 1 t.I,.slice 1 t.L]
def aB.b (t:aB):Ob:= .box [.p (.int .i64 t.Kind),.p (.int .i64 t.N),.p (.str t.S),.p (.slice 1 t.I),.p (.slice 1 t.L)]
instance:Iso (Int×Int×LN×LD×LD×Unit) aB:=⟨fun(Kind,N,S,I,L,())=>⟨Kind,N,S,I,L⟩,fun t=>(t.Kind,t.N,t.S,t.I,t.L,()),fun _=>rfl⟩
def r_api_Value:Rd Da aB:= .tl<| .G (.gi<| .gi<| .gs<| .gl 1<| .gl 1 .n)
def dS (x:Da)(k:aB->R):R:=r_api_Value.d x k
def fZ {k:aB->R}(h:∀t:aB,x=t.e->Le (k t) Z):Le (dS x k) Z:=r_api_Value.le _ _ _ h
structure cb where
 Name:LN
 (Kind Init_Kind Init_N:Int)
 Init_S:LN
 (Init_I Init_L:LD)
def cb.e (t:cb):Da:= .agg [.str t.Name,.int .i64 t.Kind,.int .i64 t.Init_Kind,.int .i64 t.Init_N,.str t.Init_S,.slice 1 t.Init_I,.slice 1 t.Init_L]
def cb.b (t:cb):Ob:= .box [.p (.str t.Name),.p (.int .i64 t.Kind),.p (.int .i64 t.Init_Kind),.p (.int .i64 t.Init_N),.p (.str t.Init_S),.p (.slice 1 t.Init_I),.p (.slice 1 t.Init_L)]
def r_api_Field:Rd Da cb:= .rm (.G (.gs<| .gi<| .gi<| .gi<| .gs<| .gl 1<| .gl 1 .n)) (fun(v0,(v1,(v2,(v3,(v4,(v5,(v6,())))))))=>⟨v0,v1,v2,v3,v4,v5,v6⟩) (fun t=>(t.Name,(t.Kind,(t.Init_Kind,(t.Init_N,(t.Init_S,(t.Init_I,(t.Init_L,()))))))))
def cI (x:Da)(k:cb->R):R:=r_api_Field.d x k
def fX {k:cb->R}(h:∀t:cb,x=t.e->Le (k t) Z):Le (cI x k) Z:=r_api_Field.le _ _ _ h
structure bf where
 Name:LN
 Params:LD
 Result:Int
 Nodes:LD
def bf.e (t:bf):Da:= .agg [.str t.Name,.slice 2 t.Params,.int .i64 t.Result,.slice 8 t.Nodes]
def bf.b (t:bf):Ob:= .box [.p (.str t.Name),.p (.slice 2 t.Params),.p (.int .i64 t.Result),.p (.slice 8 t.Nodes)]
instance:Iso (LN×LD×Int×LD×Unit) bf:=⟨fun(Name,Params,Result,Nodes,())=>⟨Name,Params,Result,Nodes⟩,fun t=>(t.Name,t.Params,t.Result,t.Nodes,()),fun _=>rfl⟩
def r_api_Method:Rd Da bf:= .tl<| .G (.gs<| .gl 2<| .gi<| .gl 8 .n)
def dR (x:Da)(k:bf->R):R:=r_api_Method.d x k
def yP {k:bf->R}(h:∀t:bf,x=t.e->Le (k t) Z):Le (dR x k) Z:=r_api_Method.le _ _ _ h
structure aK where
 Op:Int
 Name:LN
 (Value_Kind Value_N:Int)
 Value_S:LN
 (Value_I Value_L Kids:LD)
def aK.e (t:aK):Da:= .agg [.int .i64 t.Op,.str t.Name,.int .i64 t.Value_Kind,.int .i64 t.Value_N,.str t.Value_S,.slice 1 t.Value_I,.slice 1 t.Value_L,.slice 1 t.Kids]
def aK.b (t:aK):Ob:= .box [.p (.int .i64 t.Op),.p (.str t.Name),.p (.int .i64 t.Value_Kind),.p (.int .i64 t.Value_N),.p (.str t.Value_S),.p (.slice 1 t.Value_I),.p (.slice 1 t.Value_L),.p (.slice 1 t.Kids)]
instance:Iso (Int×LN×Int×Int×LN×LD×LD×LD×Unit) aK:=⟨fun(Op,Name,Value_Kind,Value_N,Value_S,Value_I,Value_L,Kids,())=>⟨Op,Name,Value_Kind,Value_N,Value_S,Value_I,Value_L,Kids⟩,fun t=>(t.Op,t.Name,t.Value_Kind,t.Value_N,t.Value_S,t.Value_I,t.Value_L,t.Kids,()),fun _=>rfl⟩
def r_api_Node:Rd Da aK:= .tl<| .G (.gi<| .gs<| .gi<| .gi<| .gs<| .gl 1<| .gl 1<| .gl 1 .n)
def bn (x:Da)(k:aK->R):R:=r_api_Node.d x k
def fi {k:aK->R}(h:∀t:aK,x=t.e->Le (k t) Z):Le (bn x k) Z:=r_api_Node.le _ _ _ h
structure eq where
 Name:LN
 Kind:Int
def eq.e (t:eq):Da:= .agg [.str t.Name,.int .i64 t.Kind]
def eq.b (t:eq):Ob:= .box [.p (.str t.Name),.p (.int .i64 t.Kind)]
def r_api_Param:Rd Da eq:= .rm (.G (.gs<| .gi .n)) (fun(v0,(v1,()))=>⟨v0,v1⟩) (fun t=>(t.Name,(t.Kind,())))
def cJ (x:Da)(k:eq->R):R:=r_api_Param.d x k
def fY {k:eq->R}(h:∀t:eq,x=t.e->Le (k t) Z):Le (cJ x k) Z:=r_api_Param.le _ _ _ h
structure bE where
 tk:LD
 (ps en aT er ne tt:Int)
 nd:Nat
 no:LD
def bE.hp (c:bE):List Ob:=[.box [.p (.slice 4 c.tk),.p (.int .i64 c.ps),.p (.int .i64 c.en),.p (.int .i64 c.aT),.p (.int .i64 c.er),.p (.int .i64 c.ne),.p (.int .i64 c.tt),.arr 1 0 c.nd 8],.arr c.no]
def r_PsA:Rd (List Ob) bE:= .rm (.c (.Ob (.cl 4<| .ci<| .ci<| .ci<| .ci<| .ci<| .ci<| .c (.Ar 1 8) .n)) (.c .Oa .n)) (fun((tk,(ps,(en,(aT,(er,(ne,(tt,(nd,())))))))),(no,()))=>⟨tk,ps,en,aT,er,ne,tt,nd,no⟩) (fun c=>((c.tk,(c.ps,(c.en,(c.aT,(c.er,(c.ne,(c.tt,(c.nd,())))))))),(c.no,())))
def aq (o:List Ob)(k:bE->R):R:=r_PsA.d o k
structure cg where
 tk:LD
 (ps en aT er ne tt:Int)
 nd:LD
def cg.hp (c:cg):List Ob:=[.box [.p (.slice 4 c.tk),.p (.int .i64 c.ps),.p (.int .i64 c.en),.p (.int .i64 c.aT),.p (.int .i64 c.er),.p (.int .i64 c.ne),.p (.int .i64 c.tt),.p (.slice 8 c.nd)]]
instance:Iso (LD×Int×Int×Int×Int×Int×Int×LD×Unit) cg:=⟨fun(tk,ps,en,aT,er,ne,tt,nd,())=>⟨tk,ps,en,aT,er,ne,tt,nd⟩,fun t=>(t.tk,t.ps,t.en,t.aT,t.er,t.ne,t.tt,t.nd,()),fun _=>rfl⟩
def r_PsB:Rd (List Ob) cg:= .tl<| .c (.Ob (.cl 4<| .ci<| .ci<| .ci<| .ci<| .ci<| .ci<| .cl 8 .n)) .n
def aR (o:List Ob)(k:cg->R):R:=r_PsB.d o k
structure CY where
 tk:LD
 (ps en aT er ne tt:Int)
 (nd ou:Nat)
 (no ol:LD)
def CY.hp (c:CY):List Ob:=[.box [.p (.slice 4 c.tk),.p (.int .i64 c.ps),.p (.int .i64 c.en),.p (.int .i64 c.aT),.p (.int .i64 c.er),.p (.int .i64 c.ne),.p (.int .i64 c.tt),.arr 3 0 c.nd 8],.box [.arr 4 0 c.ou 1],.box [.box 0 0],.arr c.no,.arr c.ol]
def r_PsO:Rd (List Ob) CY:= .rm (.c (.Ob (.cl 4<| .ci<| .ci<| .ci<| .ci<| .ci<| .ci<| .c (.Ar 3 8) .n)) (.c (.Ob (.c (.Ar 4 1) .n)) (.u (.Ob (.co 0 .n))<| .c .Oa<| .c .Oa .n))) (fun((tk,(ps,(en,(aT,(er,(ne,(tt,(nd,())))))))),((ou,()),(no,(ol,()))))=>⟨tk,ps,en,aT,er,ne,tt,nd,ou,no,ol⟩) (fun c=>((c.tk,(c.ps,(c.en,(c.aT,(c.er,(c.ne,(c.tt,(c.nd,())))))))),((c.ou,()),(c.no,(c.ol,())))))
def RZ (o:List Ob)(k:CY->R):R:=r_PsO.d o k
def ZE {o:List Ob}{k:CY->R}(h:∀c:CY,o=c.hp->Le (k c) Z):Le (RZ o k) Z:=r_PsO.le _ _ _ h
structure PsE where
 ou:Nat
 (ol tk:LD)
 (ps en aT er ne tt:Int)
 nd:Nat
 no:LD
def PsE.hp (c:PsE):List Ob:=[.box [.arr 1 0 c.ou 1],.arr c.ol,.box [.box 3 0],.box [.p (.slice 4 c.tk),.p (.int .i64 c.ps),.p (.int .i64 c.en),.p (.int .i64 c.aT),.p (.int .i64 c.er),.p (.int .i64 c.ne),.p (.int .i64 c.tt),.arr 4 0 c.nd 8],.arr c.no]
structure PsF where
 ou:Nat
 tk:LD
 (ps en aT er ne tt:Int)
 nd:Nat
 (ol no:LD)
def PsF.hp (c:PsF):List Ob:=[.box [.arr 5 0 c.ou 1],.dead,.box [.box 3 0],.box [.p (.slice 4 c.tk),.p (.int .i64 c.ps),.p (.int .i64 c.en),.p (.int .i64 c.aT),.p (.int .i64 c.er),.p (.int .i64 c.ne),.p (.int .i64 c.tt),.arr 6 0 c.nd 8],.dead,.arr c.ol,.arr c.no]
def r_PsF:Rd (List Ob) PsF:= .rm (.c (.Ob (.c (.Ar 5 1) .n)) (.u .Od<| .u (.Ob (.co 3 .n))<| .c (.Ob (.cl 4<| .ci<| .ci<| .ci<| .ci<| .ci<| .ci<| .c (.Ar 6 8) .n)) (.u .Od<| .c .Oa<| .c .Oa .n))) (fun((ou,()),((tk,(ps,(en,(aT,(er,(ne,(tt,(nd,())))))))),(ol,(no,()))))=>⟨ou,tk,ps,en,aT,er,ne,tt,nd,ol,no⟩) (fun c=>((c.ou,()),((c.tk,(c.ps,(c.en,(c.aT,(c.er,(c.ne,(c.tt,(c.nd,())))))))),(c.ol,(c.no,())))))
def aaH (o:List Ob)(k:PsF->R):R:=r_PsF.d o k
structure NO where
 tk:LD
 (ps en aT er ne tt:Int)
def NO.hp (c:NO):List Ob:=[.box [.p (.slice 4 c.tk),.p (.int .i64 c.ps),.p (.int .i64 c.en),.p (.int .i64 c.aT),.p (.int .i64 c.er),.p (.int .i64 c.ne),.p (.int .i64 c.tt),.sl .nil 8 []]]
structure PsC where
 tk:LD
 (ps en aT er ne tt:Int)
 nd:Nat
 no:LD
def PsC.hp (c:PsC):List Ob:=[.box [.p (.slice 4 c.tk),.p (.int .i64 c.ps),.p (.int .i64 c.en),.p (.int .i64 c.aT),.p (.int .i64 c.er),.p (.int .i64 c.ne),.p (.int .i64 c.tt),.arr 1 0 c.nd 8],.fz c.no]
structure OC where
 tk:LD
 (ps en aT er ne tt:Int)
 nd:Nat
 (vk vn:Int)
 vs:LN
 vi:Nat
 (no il:LD)
def OC.hp (c:OC):List Ob:=[.box [.p (.slice 4 c.tk),.p (.int .i64 c.ps),.p (.int .i64 c.en),.p (.int .i64 c.aT),.p (.int .i64 c.er),.p (.int .i64 c.ne),.p (.int .i64 c.tt),.arr 3 0 c.nd 8],.box [.box 0 0],.box [.p (.int .i64 c.vk),.p (.int .i64 c.vn),.p (.str c.vs),.arr 4 0 c.vi 1,.sl .nil 1 []],.arr c.no,.arr c.il]
def r_PsAI:Rd (List Ob) OC:= .rm (.c (.Ob (.cl 4<| .ci<| .ci<| .ci<| .ci<| .ci<| .ci<| .c (.Ar 3 8) .n)) (.u (.Ob (.co 0 .n))<| .c (.Ob (.ci<| .ci<| .cs<| .c (.Ar 4 1)<| .u (.Nl 1) .n)) (.c .Oa<| .c .Oa .n))) (fun((tk,(ps,(en,(aT,(er,(ne,(tt,(nd,())))))))),((vk,(vn,(vs,(vi,())))),(no,(il,()))))=>⟨tk,ps,en,aT,er,ne,tt,nd,vk,vn,vs,vi,no,il⟩) (fun c=>((c.tk,(c.ps,(c.en,(c.aT,(c.er,(c.ne,(c.tt,(c.nd,())))))))),((c.vk,(c.vn,(c.vs,(c.vi,())))),(c.no,(c.il,())))))
def Pj (o:List Ob)(k:OC->R):R:=r_PsAI.d o k
def Vc {o:List Ob}{k:OC->R}(h:∀c:OC,o=c.hp->Le (k c) Z):Le (Pj o k) Z:=r_PsAI.le _ _ _ h
structure OD where
 tk:LD
 (ps en aT er ne tt:Int)
 nd:Nat
 (vk vn:Int)
 vs:LN
 vl:Nat
 (no il:LD)
def OD.hp (c:OD):List Ob:=[.box [.p (.slice 4 c.tk),.p (.int .i64 c.ps),.p (.int .i64 c.en),.p (.int .i64 c.aT),.p (.int .i64 c.er),.p (.int .i64 c.ne),.p (.int .i64 c.tt),.arr 3 0 c.nd 8],.box [.box 0 0],.box [.p (.int .i64 c.vk),.p (.int .i64 c.vn),.p (.str c.vs),.sl .nil 1 [],.arr 4 0 c.vl 1],.arr c.no,.arr c.il]
def r_PsAL:Rd (List Ob) OD:= .rm (.c (.Ob (.cl 4<| .ci<| .ci<| .ci<| .ci<| .ci<| .ci<| .c (.Ar 3 8) .n)) (.u (.Ob (.co 0 .n))<| .c (.Ob (.ci<| .ci<| .cs<| .u (.Nl 1)<| .c (.Ar 4 1) .n)) (.c .Oa<| .c .Oa .n))) (fun((tk,(ps,(en,(aT,(er,(ne,(tt,(nd,())))))))),((vk,(vn,(vs,(vl,())))),(no,(il,()))))=>⟨tk,ps,en,aT,er,ne,tt,nd,vk,vn,vs,vl,no,il⟩) (fun c=>((c.tk,(c.ps,(c.en,(c.aT,(c.er,(c.ne,(c.tt,(c.nd,())))))))),((c.vk,(c.vn,(c.vs,(c.vl,())))),(c.no,(c.il,())))))
def Pk (o:List Ob)(k:OD->R):R:=r_PsAL.d o k
def Vd {o:List Ob}{k:OD->R}(h:∀c:OD,o=c.hp->Le (k c) Z):Le (Pk o k) Z:=r_PsAL.le _ _ _ h
structure mq where
 tk:LD
 (ps en aT er ne tt:Int)
 nd:LD
 (vk vn:Int)
 vs:LN
 vi:Nat
 il:LD
def mq.hp (c:mq):List Ob:=[.box [.p (.slice 4 c.tk),.p (.int .i64 c.ps),.p (.int .i64 c.en),.p (.int .i64 c.aT),.p (.int .i64 c.er),.p (.int .i64 c.ne),.p (.int .i64 c.tt),.p (.slice 8 c.nd)],.box [.box 0 0],.box [.p (.int .i64 c.vk),.p (.int .i64 c.vn),.p (.str c.vs),.arr 3 0 c.vi 1,.sl .nil 1 []],.arr c.il]
def r_PsBI:Rd (List Ob) mq:= .rm (.c (.Ob (.cl 4<| .ci<| .ci<| .ci<| .ci<| .ci<| .ci<| .cl 8 .n)) (.u (.Ob (.co 0 .n))<| .c (.Ob (.ci<| .ci<| .cs<| .c (.Ar 3 1)<| .u (.Nl 1) .n)) (.c .Oa .n))) (fun((tk,(ps,(en,(aT,(er,(ne,(tt,(nd,())))))))),((vk,(vn,(vs,(vi,())))),(il,())))=>⟨tk,ps,en,aT,er,ne,tt,nd,vk,vn,vs,vi,il⟩) (fun c=>((c.tk,(c.ps,(c.en,(c.aT,(c.er,(c.ne,(c.tt,(c.nd,())))))))),((c.vk,(c.vn,(c.vs,(c.vi,())))),(c.il,()))))
def Gq (o:List Ob)(k:mq->R):R:=r_PsBI.d o k
def Ve {o:List Ob}{k:mq->R}(h:∀c:mq,o=c.hp->Le (k c) Z):Le (Gq o k) Z:=r_PsBI.le _ _ _ h
structure mt where
 tk:LD
 (ps en aT er ne tt:Int)
 nd:LD
 (vk vn:Int)
 vs:LN
 vl:Nat
 il:LD
def mt.hp (c:mt):List Ob:=[.box [.p (.slice 4 c.tk),.p (.int .i64 c.ps),.p (.int .i64 c.en),.p (.int .i64 c.aT),.p (.int .i64 c.er),.p (.int .i64 c.ne),.p (.int .i64 c.tt),.p (.slice 8 c.nd)],.box [.box 0 0],.box [.p (.int .i64 c.vk),.p (.int .i64 c.vn),.p (.str c.vs),.sl .nil 1 [],.arr 3 0 c.vl 1],.arr c.il]
def r_PsBL:Rd (List Ob) mt:= .rm (.c (.Ob (.cl 4<| .ci<| .ci<| .ci<| .ci<| .ci<| .ci<| .cl 8 .n)) (.u (.Ob (.co 0 .n))<| .c (.Ob (.ci<| .ci<| .cs<| .u (.Nl 1)<| .c (.Ar 3 1) .n)) (.c .Oa .n))) (fun((tk,(ps,(en,(aT,(er,(ne,(tt,(nd,())))))))),((vk,(vn,(vs,(vl,())))),(il,())))=>⟨tk,ps,en,aT,er,ne,tt,nd,vk,vn,vs,vl,il⟩) (fun c=>((c.tk,(c.ps,(c.en,(c.aT,(c.er,(c.ne,(c.tt,(c.nd,())))))))),((c.vk,(c.vn,(c.vs,(c.vl,())))),(c.il,()))))
def Gr (o:List Ob)(k:mt->R):R:=r_PsBL.d o k
def Vf {o:List Ob}{k:mt->R}(h:∀c:mt,o=c.hp->Le (k c) Z):Le (Gr o k) Z:=r_PsBL.le _ _ _ h
structure CX where
 tk:LD
 (ps en aT er ne tt:Int)
 nd:LD
 mn:LN
 mp:Nat
 mr:Int
 pl:LD
def CX.hp (c:CX):List Ob:=[.box [.p (.slice 4 c.tk),.p (.int .i64 c.ps),.p (.int .i64 c.en),.p (.int .i64 c.aT),.p (.int .i64 c.er),.p (.int .i64 c.ne),.p (.int .i64 c.tt),.p (.slice 8 c.nd)],.box [.box 0 0],.box [.p (.str c.mn),.arr 3 0 c.mp 2,.p (.int .i64 c.mr),.sl .nil 8 []],.arr c.pl]
def r_PsM:Rd (List Ob) CX:= .rm (.c (.Ob (.cl 4<| .ci<| .ci<| .ci<| .ci<| .ci<| .ci<| .cl 8 .n)) (.u (.Ob (.co 0 .n))<| .c (.Ob (.cs<| .c (.Ar 3 2)<| .ci<| .u (.Nl 8) .n)) (.c .Oa .n))) (fun((tk,(ps,(en,(aT,(er,(ne,(tt,(nd,())))))))),((mn,(mp,(mr,()))),(pl,())))=>⟨tk,ps,en,aT,er,ne,tt,nd,mn,mp,mr,pl⟩) (fun c=>((c.tk,(c.ps,(c.en,(c.aT,(c.er,(c.ne,(c.tt,(c.nd,())))))))),((c.mn,(c.mp,(c.mr,()))),(c.pl,()))))
def RY (o:List Ob)(k:CX->R):R:=r_PsM.d o k
def ZD {o:List Ob}{k:CX->R}(h:∀c:CX,o=c.hp->Le (k c) Z):Le (RY o k) Z:=r_PsM.le _ _ _ h
structure KaI where
 (vk vn:Int)
 vs:LN
 vi:Nat
 (il tk:LD)
 (ps en aT er ne tt:Int)
 nd:Nat
 no:LD
def KaI.hp (c:KaI):List Ob:=[.box [.p (.int .i64 c.vk),.p (.int .i64 c.vn),.p (.str c.vs),.arr 1 0 c.vi 1,.sl .nil 1 []],.arr c.il,.box [.box 3 0],.box [.p (.slice 4 c.tk),.p (.int .i64 c.ps),.p (.int .i64 c.en),.p (.int .i64 c.aT),.p (.int .i64 c.er),.p (.int .i64 c.ne),.p (.int .i64 c.tt),.arr 4 0 c.nd 8],.arr c.no]
structure KaJ where
 (vk vn:Int)
 vs:LN
 vi:Nat
 tk:LD
 (ps en aT er ne tt:Int)
 nd:Nat
 (no il:LD)
def KaJ.hp (c:KaJ):List Ob:=[.box [.p (.int .i64 c.vk),.p (.int .i64 c.vn),.p (.str c.vs),.arr 5 0 c.vi 1,.sl .nil 1 []],.dead,.box [.box 3 0],.box [.p (.slice 4 c.tk),.p (.int .i64 c.ps),.p (.int .i64 c.en),.p (.int .i64 c.aT),.p (.int .i64 c.er),.p (.int .i64 c.ne),.p (.int .i64 c.tt),.arr 4 0 c.nd 8],.arr c.no,.arr c.il]
def aej:Rd (List Ob) KaJ:= .rm (.c (.Ob (.ci<| .ci<| .cs<| .c (.Ar 5 1)<| .u (.Nl 1) .n)) (.u .Od<| .u (.Ob (.co 3 .n))<| .c (.Ob (.cl 4<| .ci<| .ci<| .ci<| .ci<| .ci<| .ci<| .c (.Ar 4 8) .n)) (.c .Oa<| .c .Oa .n))) (fun((vk,(vn,(vs,(vi,())))),((tk,(ps,(en,(aT,(er,(ne,(tt,(nd,())))))))),(no,(il,()))))=>⟨vk,vn,vs,vi,tk,ps,en,aT,er,ne,tt,nd,no,il⟩) (fun c=>((c.vk,(c.vn,(c.vs,(c.vi,())))),((c.tk,(c.ps,(c.en,(c.aT,(c.er,(c.ne,(c.tt,(c.nd,())))))))),(c.no,(c.il,())))))
structure Ŋ where
 (vk vn:Int)
 vs:LN
 vi:Nat
 (il tk:LD)
 (ps en aT er ne tt:Int)
 nd:LD
def Ŋ.hp (c:Ŋ):List Ob:=[.box [.p (.int .i64 c.vk),.p (.int .i64 c.vn),.p (.str c.vs),.arr 1 0 c.vi 1,.sl .nil 1 []],.arr c.il,.box [.box 3 0],.box [.p (.slice 4 c.tk),.p (.int .i64 c.ps),.p (.int .i64 c.en),.p (.int .i64 c.aT),.p (.int .i64 c.er),.p (.int .i64 c.ne),.p (.int .i64 c.tt),.p (.slice 8 c.nd)]]
structure KbJ where
 (vk vn:Int)
 vs:LN
 vi:Nat
 tk:LD
 (ps en aT er ne tt:Int)
 (nd il:LD)
def KbJ.hp (c:KbJ):List Ob:=[.box [.p (.int .i64 c.vk),.p (.int .i64 c.vn),.p (.str c.vs),.arr 4 0 c.vi 1,.sl .nil 1 []],.dead,.box [.box 3 0],.box [.p (.slice 4 c.tk),.p (.int .i64 c.ps),.p (.int .i64 c.en),.p (.int .i64 c.aT),.p (.int .i64 c.er),.p (.int .i64 c.ne),.p (.int .i64 c.tt),.p (.slice 8 c.nd)],.arr c.il]
def r_KbJ:Rd (List Ob) KbJ:= .rm (.c (.Ob (.ci<| .ci<| .cs<| .c (.Ar 4 1)<| .u (.Nl 1) .n)) (.u .Od<| .u (.Ob (.co 3 .n))<| .c (.Ob (.cl 4<| .ci<| .ci<| .ci<| .ci<| .ci<| .ci<| .cl 8 .n)) (.c .Oa .n))) (fun((vk,(vn,(vs,(vi,())))),((tk,(ps,(en,(aT,(er,(ne,(tt,(nd,())))))))),(il,())))=>⟨vk,vn,vs,vi,tk,ps,en,aT,er,ne,tt,nd,il⟩) (fun c=>((c.vk,(c.vn,(c.vs,(c.vi,())))),((c.tk,(c.ps,(c.en,(c.aT,(c.er,(c.ne,(c.tt,(c.nd,())))))))),(c.il,()))))
def KN (o:List Ob)(k:KbJ->R):R:=r_KbJ.d o k
structure KaL where
 (vk vn:Int)
 vs:LN
 vl:Nat
 (il tk:LD)
 (ps en aT er ne tt:Int)
 nd:Nat
 no:LD
def KaL.hp (c:KaL):List Ob:=[.box [.p (.int .i64 c.vk),.p (.int .i64 c.vn),.p (.str c.vs),.sl .nil 1 [],.arr 1 0 c.vl 1],.arr c.il,.box [.box 3 0],.box [.p (.slice 4 c.tk),.p (.int .i64 c.ps),.p (.int .i64 c.en),.p (.int .i64 c.aT),.p (.int .i64 c.er),.p (.int .i64 c.ne),.p (.int .i64 c.tt),.arr 4 0 c.nd 8],.arr c.no]
structure KaM where
 (vk vn:Int)
 vs:LN
 vl:Nat
 tk:LD
 (ps en aT er ne tt:Int)
 nd:Nat
 (no il:LD)
def KaM.hp (c:KaM):List Ob:=[.box [.p (.int .i64 c.vk),.p (.int .i64 c.vn),.p (.str c.vs),.sl .nil 1 [],.arr 5 0 c.vl 1],.dead,.box [.box 3 0],.box [.p (.slice 4 c.tk),.p (.int .i64 c.ps),.p (.int .i64 c.en),.p (.int .i64 c.aT),.p (.int .i64 c.er),.p (.int .i64 c.ne),.p (.int .i64 c.tt),.arr 4 0 c.nd 8],.arr c.no,.arr c.il]
def aek:Rd (List Ob) KaM:= .rm (.c (.Ob (.ci<| .ci<| .cs<| .u (.Nl 1)<| .c (.Ar 5 1) .n)) (.u .Od<| .u (.Ob (.co 3 .n))<| .c (.Ob (.cl 4<| .ci<| .ci<| .ci<| .ci<| .ci<| .ci<| .c (.Ar 4 8) .n)) (.c .Oa<| .c .Oa .n))) (fun((vk,(vn,(vs,(vl,())))),((tk,(ps,(en,(aT,(er,(ne,(tt,(nd,())))))))),(no,(il,()))))=>⟨vk,vn,vs,vl,tk,ps,en,aT,er,ne,tt,nd,no,il⟩) (fun c=>((c.vk,(c.vn,(c.vs,(c.vl,())))),((c.tk,(c.ps,(c.en,(c.aT,(c.er,(c.ne,(c.tt,(c.nd,())))))))),(c.no,(c.il,())))))
structure ŋ where
 (vk vn:Int)
 vs:LN
 vl:Nat
 (il tk:LD)
 (ps en aT er ne tt:Int)
 nd:LD
def ŋ.hp (c:ŋ):List Ob:=[.box [.p (.int .i64 c.vk),.p (.int .i64 c.vn),.p (.str c.vs),.sl .nil 1 [],.arr 1 0 c.vl 1],.arr c.il,.box [.box 3 0],.box [.p (.slice 4 c.tk),.p (.int .i64 c.ps),.p (.int .i64 c.en),.p (.int .i64 c.aT),.p (.int .i64 c.er),.p (.int .i64 c.ne),.p (.int .i64 c.tt),.p (.slice 8 c.nd)]]
structure KbM where
 (vk vn:Int)
 vs:LN
 vl:Nat
 tk:LD
 (ps en aT er ne tt:Int)
 (nd il:LD)
def KbM.hp (c:KbM):List Ob:=[.box [.p (.int .i64 c.vk),.p (.int .i64 c.vn),.p (.str c.vs),.sl .nil 1 [],.arr 4 0 c.vl 1],.dead,.box [.box 3 0],.box [.p (.slice 4 c.tk),.p (.int .i64 c.ps),.p (.int .i64 c.en),.p (.int .i64 c.aT),.p (.int .i64 c.er),.p (.int .i64 c.ne),.p (.int .i64 c.tt),.p (.slice 8 c.nd)],.arr c.il]
def r_KbM:Rd (List Ob) KbM:= .rm (.c (.Ob (.ci<| .ci<| .cs<| .u (.Nl 1)<| .c (.Ar 4 1) .n)) (.u .Od<| .u (.Ob (.co 3 .n))<| .c (.Ob (.cl 4<| .ci<| .ci<| .ci<| .ci<| .ci<| .ci<| .cl 8 .n)) (.c .Oa .n))) (fun((vk,(vn,(vs,(vl,())))),((tk,(ps,(en,(aT,(er,(ne,(tt,(nd,())))))))),(il,())))=>⟨vk,vn,vs,vl,tk,ps,en,aT,er,ne,tt,nd,il⟩) (fun c=>((c.vk,(c.vn,(c.vs,(c.vl,())))),((c.tk,(c.ps,(c.en,(c.aT,(c.er,(c.ne,(c.tt,(c.nd,())))))))),(c.il,()))))
def KO (o:List Ob)(k:KbM->R):R:=r_KbM.d o k
structure PvA where
 tk:LD
 (ps en aT er ne tt:Int)
 nd:Nat
 no:LD
def PvA.hp (c:PvA):List Ob:=[.box [.box 1 0],.box [.p (.slice 4 c.tk),.p (.int .i64 c.ps),.p (.int .i64 c.en),.p (.int .i64 c.aT),.p (.int .i64 c.er),.p (.int .i64 c.ne),.p (.int .i64 c.tt),.arr 2 0 c.nd 8],.arr c.no]
def ael:Rd (List Ob) PvA:= .rm (.u (.Ob (.co 1 .n))<| .c (.Ob (.cl 4<| .ci<| .ci<| .ci<| .ci<| .ci<| .ci<| .c (.Ar 2 8) .n)) (.c .Oa .n)) (fun((tk,(ps,(en,(aT,(er,(ne,(tt,(nd,())))))))),(no,()))=>⟨tk,ps,en,aT,er,ne,tt,nd,no⟩) (fun c=>((c.tk,(c.ps,(c.en,(c.aT,(c.er,(c.ne,(c.tt,(c.nd,())))))))),(c.no,())))
structure AH where
 tk:LD
 (ps en aT er ne tt:Int)
 nd:LD
def AH.hp (c:AH):List Ob:=[.box [.box 1 0],.box [.p (.slice 4 c.tk),.p (.int .i64 c.ps),.p (.int .i64 c.en),.p (.int .i64 c.aT),.p (.int .i64 c.er),.p (.int .i64 c.ne),.p (.int .i64 c.tt),.p (.slice 8 c.nd)]]
def r_PvB:Rd (List Ob) AH:= .rm (.u (.Ob (.co 1 .n))<| .c (.Ob (.cl 4<| .ci<| .ci<| .ci<| .ci<| .ci<| .ci<| .cl 8 .n)) .n) (fun((tk,(ps,(en,(aT,(er,(ne,(tt,(nd,())))))))),())=>⟨tk,ps,en,aT,er,ne,tt,nd⟩) (fun c=>((c.tk,(c.ps,(c.en,(c.aT,(c.er,(c.ne,(c.tt,(c.nd,())))))))),()))
def R0 (o:List Ob)(k:AH->R):R:=r_PvB.d o k
structure OE where
 tk:LD
 (ps en aT er ne tt:Int)
 nd:Nat
 (kl no:LD)
def OE.hp (c:OE):List Ob:=[.box [.p (.slice 4 c.tk),.p (.int .i64 c.ps),.p (.int .i64 c.en),.p (.int .i64 c.aT),.p (.int .i64 c.er),.p (.int .i64 c.ne),.p (.int .i64 c.tt),.arr 2 0 c.nd 8],.arr c.kl,.arr c.no]
structure Ō where
 tk:LD
 (ps en aT er ne tt:Int)
 nd:LD
 mn:LN
 mp:Nat
 mr:Int
 pl:LD
def Ō.hp (c:Ō):List Ob:=[.box [.box 1 0],.box [.p (.slice 4 c.tk),.p (.int .i64 c.ps),.p (.int .i64 c.en),.p (.int .i64 c.aT),.p (.int .i64 c.er),.p (.int .i64 c.ne),.p (.int .i64 c.tt),.p (.slice 8 c.nd)],.box [.p (.str c.mn),.arr 3 0 c.mp 2,.p (.int .i64 c.mr),.sl .nil 8 []],.arr c.pl]
structure XW where
 tk:LD
 (ps en aT er ne tt:Int)
 nd:Nat
 (kl no:LD)
def XW.hp (c:XW):List Ob:=[.box [.p (.slice 4 c.tk),.p (.int .i64 c.ps),.p (.int .i64 c.en),.p (.int .i64 c.aT),.p (.int .i64 c.er),.p (.int .i64 c.ne),.p (.int .i64 c.tt),.arr 2 0 c.nd 8],.fz c.kl,.arr c.no]
def r_PsD:Rd (List Ob) XW:= .rm (.c (.Ob (.cl 4<| .ci<| .ci<| .ci<| .ci<| .ci<| .ci<| .c (.Ar 2 8) .n)) (.c .Of<| .c .Oa .n)) (fun((tk,(ps,(en,(aT,(er,(ne,(tt,(nd,())))))))),(kl,(no,())))=>⟨tk,ps,en,aT,er,ne,tt,nd,kl,no⟩) (fun c=>((c.tk,(c.ps,(c.en,(c.aT,(c.er,(c.ne,(c.tt,(c.nd,())))))))),(c.kl,(c.no,()))))
def KQ (o:List Ob)(k:XW->R):R:=r_PsD.d o k
structure KbQ where
 tk:LD
 (ps en aT er ne tt:Int)
 nd:LD
 mn:LN
 mp:Nat
 mr:Int
 pl:LD
def KbQ.hp (c:KbQ):List Ob:=[.box [.box 1 0],.box [.p (.slice 4 c.tk),.p (.int .i64 c.ps),.p (.int .i64 c.en),.p (.int .i64 c.aT),.p (.int .i64 c.er),.p (.int .i64 c.ne),.p (.int .i64 c.tt),.p (.slice 8 c.nd)],.box [.p (.str c.mn),.arr 4 0 c.mp 2,.p (.int .i64 c.mr),.sl .nil 8 []],.dead,.arr c.pl]
def r_KbQ:Rd (List Ob) KbQ:= .rm (.u (.Ob (.co 1 .n))<| .c (.Ob (.cl 4<| .ci<| .ci<| .ci<| .ci<| .ci<| .ci<| .cl 8 .n)) (.c (.Ob (.cs<| .c (.Ar 4 2)<| .ci<| .u (.Nl 8) .n)) (.u .Od<| .c .Oa .n))) (fun((tk,(ps,(en,(aT,(er,(ne,(tt,(nd,())))))))),((mn,(mp,(mr,()))),(pl,())))=>⟨tk,ps,en,aT,er,ne,tt,nd,mn,mp,mr,pl⟩) (fun c=>((c.tk,(c.ps,(c.en,(c.aT,(c.er,(c.ne,(c.tt,(c.nd,())))))))),((c.mn,(c.mp,(c.mr,()))),(c.pl,()))))
def KP (o:List Ob)(k:KbQ->R):R:=r_KbQ.d o k
structure zg where
 ns:LD
def zg.hp (c:zg):List Ob:=[.box [.p .nilptr,.sl .nil 1 [],.p (.slice 8 c.ns)]]
def r_PwA:Rd (List Ob) zg:= .rm (.c (.Ob (.u (.P .Np)<| .u (.Nl 1)<| .cl 8 .n)) .n) (fun((ns,()),())=>⟨ns⟩) (fun c=>((c.ns,()),()))
def aaI (o:List Ob)(k:zg->R):R:=r_PwA.d o k
structure PwC where
 ns:LD
def PwC.hp (c:PwC):List Ob:=[.box [.box 0 0,.sl .nil 1 [],.p (.slice 8 c.ns)]]
def r_PwC:Rd (List Ob) PwC:= .rm (.c (.Ob (.co 0<| .u (.Nl 1)<| .cl 8 .n)) .n) (fun((ns,()),())=>⟨ns⟩) (fun c=>((c.ns,()),()))
def aaJ (o:List Ob)(k:PwC->R):R:=r_PwC.d o k
structure cG where
 bu:Nat
 (ns ou:LD)
def cG.hp (c:cG):List Ob:=[.box [.box 0 0,.arr 1 0 c.bu 1,.p (.slice 8 c.ns)],.byt c.ou]
def r_PwB:Rd (List Ob) cG:= .rm (.c (.Ob (.co 0<| .c (.Ar 1 1)<| .cl 8 .n)) (.c .Oy .n)) (fun((bu,(ns,())),(ou,()))=>⟨bu,ns,ou⟩) (fun c=>((c.bu,(c.ns,())),(c.ou,())))
def bh (o:List Ob)(k:cG->R):R:=r_PwB.d o k
def KR {o:List Ob}{k:cG->R}(h:∀c:cG,o=c.hp->Le (k c) Z):Le (bh o k) Z:=r_PwB.le _ _ _ h
structure IH where
 bu:Nat
 ns:LD
 (vk vn:Int)
 vs:LN
 (vI vL ou:LD)
def IH.hp (c:IH):List Ob:=[.box [.box 0 0,.arr 3 0 c.bu 1,.p (.slice 8 c.ns)],.box [.box 0 0],.box [.p (.int .i64 c.vk),.p (.int .i64 c.vn),.p (.str c.vs),.p (.slice 1 c.vI),.p (.slice 1 c.vL)],.byt c.ou]
def r_PwI:Rd (List Ob) IH:= .rm (.c (.Ob (.co 0<| .c (.Ar 3 1)<| .cl 8 .n)) (.u (.Ob (.co 0 .n))<| .c (.Ob (.ci<| .ci<| .cs<| .cl 1<| .cl 1 .n)) (.c .Oy .n))) (fun((bu,(ns,())),((vk,(vn,(vs,(vI,(vL,()))))),(ou,())))=>⟨bu,ns,vk,vn,vs,vI,vL,ou⟩) (fun c=>((c.bu,(c.ns,())),((c.vk,(c.vn,(c.vs,(c.vI,(c.vL,()))))),(c.ou,()))))
def KS (o:List Ob)(k:IH->R):R:=r_PwI.d o k
def ZF {o:List Ob}{k:IH->R}(h:∀c:IH,o=c.hp->Le (k c) Z):Le (KS o k) Z:=r_PwI.le _ _ _ h
structure PwJ where
 bu:Nat
 (ns ou:LD)
 (vk vn:Int)
 vs:LN
 (vI vL:LD)
def PwJ.hp (c:PwJ):List Ob:=[.box [.box 1 0],.box [.box 1 0,.arr 2 0 c.bu 1,.p (.slice 8 c.ns)],.byt c.ou,.box [.p (.int .i64 c.vk),.p (.int .i64 c.vn),.p (.str c.vs),.p (.slice 1 c.vI),.p (.slice 1 c.vL)]]
structure NP where
 bu:Nat
 (ns li ou:LD)
def NP.hp (c:NP):List Ob:=[.box [.box 0 0,.arr 3 0 c.bu 1,.p (.slice 8 c.ns)],.box [.box 0 0],.box [.p (.slice 1 c.li)],.byt c.ou]
def r_PwL:Rd (List Ob) NP:= .rm (.c (.Ob (.co 0<| .c (.Ar 3 1)<| .cl 8 .n)) (.u (.Ob (.co 0 .n))<| .c (.Ob (.cl 1 .n))<| .c .Oy .n)) (fun((bu,(ns,())),((li,()),(ou,())))=>⟨bu,ns,li,ou⟩) (fun c=>((c.bu,(c.ns,())),((c.li,()),(c.ou,()))))
def R2 (o:List Ob)(k:NP->R):R:=r_PwL.d o k
def ZG {o:List Ob}{k:NP->R}(h:∀c:NP,o=c.hp->Le (k c) Z):Le (R2 o k) Z:=r_PwL.le _ _ _ h
structure Ŧ where
 bu:Nat
 (ns ou li:LD)
def Ŧ.hp (c:Ŧ):List Ob:=[.box [.box 1 0],.box [.box 1 0,.arr 2 0 c.bu 1,.p (.slice 8 c.ns)],.byt c.ou,.box [.p (.slice 1 c.li)]]
structure Ur where
 bu:Nat
 ns:LD
 mn:LN
 mp:LD
 mr:Int
 (mo ou:LD)
def Ur.hp (c:Ur):List Ob:=[.box [.box 0 0,.arr 3 0 c.bu 1,.p (.slice 8 c.ns)],.box [.box 0 0],.box [.p (.str c.mn),.p (.slice 2 c.mp),.p (.int .i64 c.mr),.p (.slice 8 c.mo)],.byt c.ou]
def r_PwP:Rd (List Ob) Ur:= .rm (.c (.Ob (.co 0<| .c (.Ar 3 1)<| .cl 8 .n)) (.u (.Ob (.co 0 .n))<| .c (.Ob (.cs<| .cl 2<| .ci<| .cl 8 .n)) (.c .Oy .n))) (fun((bu,(ns,())),((mn,(mp,(mr,(mo,())))),(ou,())))=>⟨bu,ns,mn,mp,mr,mo,ou⟩) (fun c=>((c.bu,(c.ns,())),((c.mn,(c.mp,(c.mr,(c.mo,())))),(c.ou,()))))
def R3 (o:List Ob)(k:Ur->R):R:=r_PwP.d o k
def ZI {o:List Ob}{k:Ur->R}(h:∀c:Ur,o=c.hp->Le (k c) Z):Le (R3 o k) Z:=r_PwP.le _ _ _ h
structure PwQ where
 bu:Nat
 (ns ou:LD)
 mn:LN
 mp:LD
 mr:Int
 mo:LD
def PwQ.hp (c:PwQ):List Ob:=[.box [.box 1 0],.box [.box 1 0,.arr 2 0 c.bu 1,.p (.slice 8 c.ns)],.byt c.ou,.box [.p (.str c.mn),.p (.slice 2 c.mp),.p (.int .i64 c.mr),.p (.slice 8 c.mo)]]
structure Ru where
 bu:Nat
 ns:LD
 (vk vn:Int)
 vs:LN
 (vI vL ou:LD)
def Ru.hp (c:Ru):List Ob:=[.box [.box 1 0],.box [.box 1 0,.arr 4 0 c.bu 1,.p (.slice 8 c.ns)],.dead,.box [.p (.int .i64 c.vk),.p (.int .i64 c.vn),.p (.str c.vs),.p (.slice 1 c.vI),.p (.slice 1 c.vL)],.byt c.ou]
def r_PwK:Rd (List Ob) Ru:= .rm (.u (.Ob (.co 1 .n))<| .c (.Ob (.co 1<| .c (.Ar 4 1)<| .cl 8 .n)) (.u .Od<| .c (.Ob (.ci<| .ci<| .cs<| .cl 1<| .cl 1 .n)) (.c .Oy .n))) (fun((bu,(ns,())),((vk,(vn,(vs,(vI,(vL,()))))),(ou,())))=>⟨bu,ns,vk,vn,vs,vI,vL,ou⟩) (fun c=>((c.bu,(c.ns,())),((c.vk,(c.vn,(c.vs,(c.vI,(c.vL,()))))),(c.ou,()))))
def KT (o:List Ob)(k:Ru->R):R:=r_PwK.d o k
structure ŧ where
 bu:Nat
 (ns li ou:LD)
def ŧ.hp (c:ŧ):List Ob:=[.box [.box 1 0],.box [.box 1 0,.arr 4 0 c.bu 1,.p (.slice 8 c.ns)],.dead,.box [.p (.slice 1 c.li)],.byt c.ou]
def r_PwN:Rd (List Ob) ŧ:= .rm (.u (.Ob (.co 1 .n))<| .c (.Ob (.co 1<| .c (.Ar 4 1)<| .cl 8 .n)) (.u .Od<| .c (.Ob (.cl 1 .n))<| .c .Oy .n)) (fun((bu,(ns,())),((li,()),(ou,())))=>⟨bu,ns,li,ou⟩) (fun c=>((c.bu,(c.ns,())),((c.li,()),(c.ou,()))))
def ZH (o:List Ob)(k:ŧ->R):R:=r_PwN.d o k
structure ō where
 bu:Nat
 ns:LD
 mn:LN
 mp:LD
 mr:Int
 (mo ou:LD)
def ō.hp (c:ō):List Ob:=[.box [.box 1 0],.box [.box 1 0,.arr 4 0 c.bu 1,.p (.slice 8 c.ns)],.dead,.box [.p (.str c.mn),.p (.slice 2 c.mp),.p (.int .i64 c.mr),.p (.slice 8 c.mo)],.byt c.ou]
def r_PwR:Rd (List Ob) ō:= .rm (.u (.Ob (.co 1 .n))<| .c (.Ob (.co 1<| .c (.Ar 4 1)<| .cl 8 .n)) (.u .Od<| .c (.Ob (.cs<| .cl 2<| .ci<| .cl 8 .n)) (.c .Oy .n))) (fun((bu,(ns,())),((mn,(mp,(mr,(mo,())))),(ou,())))=>⟨bu,ns,mn,mp,mr,mo,ou⟩) (fun c=>((c.bu,(c.ns,())),((c.mn,(c.mp,(c.mr,(c.mo,())))),(c.ou,()))))
def ZJ (o:List Ob)(k:ō->R):R:=r_PwR.d o k
structure PwD where
 bu:Nat
 ns:LD
def PwD.hp (c:PwD):List Ob:=[.box [.box 0 0,.arr 1 0 c.bu 1,.p (.slice 8 c.ns)],.dead]
def r_PwD:Rd (List Ob) PwD:= .rm (.c (.Ob (.co 0<| .c (.Ar 1 1)<| .cl 8 .n)) (.u .Od .n)) (fun((bu,(ns,())),())=>⟨bu,ns⟩) (fun c=>((c.bu,(c.ns,())),()))
def aaK (o:List Ob)(k:PwD->R):R:=r_PwD.d o k
def obC:Ob->List D| .box cs=>cs|_=>[]
def ad1:D->Bool| .arr _ _ _ _=>true|_=>false
def Ŏ (hi:List Ob):Nat:=bif ad1 ((obC (hi.getD 1 .dead)).headD .junk)then 0 else bif Nat.beq (obC (hi.getD 2 .dead)).length 4 then 5 else bif ad1 ((obC (hi.getD 2 .dead)).getD 3 .junk)then(bif Nat.beq hi.length 5 then 1 else 3)else(bif Nat.beq hi.length 5 then 2 else 4)
def abW (hi:List Ob)(v:D)(o:List Ob)(k:KV):R:=aI v fun r=>ag r<|bif Nat.beq (Ŏ hi) 0 then RZ o fun c=>k (.tup []) c.hp else bif Nat.beq (Ŏ hi) 1 then Pj o fun c=>k (.tup []) c.hp else bif Nat.beq (Ŏ hi) 2 then Pk o fun c=>k (.tup []) c.hp else bif Nat.beq (Ŏ hi) 3 then Gq o fun c=>k (.tup []) c.hp else bif Nat.beq (Ŏ hi) 4 then Gr o fun c=>k (.tup []) c.hp else RY o fun c=>k (.tup []) c.hp
def ϊ (hi:List Ob)(v:D)(o:List Ob)(k:KV):Le (abW hi v o k) (k v o):=by
 unfold abW;refine um fun _ q=>?_;subst q;refine lc fun q=>?_;subst q
 cases Nat.beq (Ŏ hi) 0<;>simp only[cond_true,cond_false];rotate_left
 ·exact ZE fun c q=>by subst q;exact Le.refl _
 cases Nat.beq (Ŏ hi) 1<;>simp only[cond_true,cond_false];rotate_left
 ·exact Vc fun c q=>by subst q;exact Le.refl _
 cases Nat.beq (Ŏ hi) 2<;>simp only[cond_true,cond_false];rotate_left
 ·exact Vd fun c q=>by subst q;exact Le.refl _
 cases Nat.beq (Ŏ hi) 3<;>simp only[cond_true,cond_false];rotate_left
 ·exact Ve fun c q=>by subst q;exact Le.refl _
 cases Nat.beq (Ŏ hi) 4<;>simp only[cond_true,cond_false];rotate_left
 ·exact Vf fun c q=>by subst q;exact Le.refl _
 exact ZD fun c q=>by subst q;exact Le.refl _
def a_:D->Bool| .p .nilif=>true|_=>false
def abY (hi:List Ob)(v:D)(o:List Ob)(k:KV):R:=aI v fun r0=>bP r0 fun d0 r1=>bP r1 fun d1 r2=>ag r2<|ag o<|iL (a_ d1) (dk (.p .nilif) d1<|dP d0 fun x0=>aP .i64 x0 fun a0=>k (.tup [.p (.int .i64 a0),.p .nilif]) []) (dk (.iface 149 .junk) d1<|dk .junk d0<|k (.tup [.junk,.iface 149 .junk]) [])
def ύ (hi:List Ob)(v:D)(o:List Ob)(k:KV):Le (abY hi v o k) (k v o):=by
 unfold abY;refine um fun _ q=>?_;subst q;refine iS fun d0 _ q=>?_;subst q;refine iS fun d1 _ q=>?_;subst q;refine lc fun q=>?_;subst q;refine lc fun q=>?_;subst q
 refine Le.two (fun _=>?_) (fun _=>?_)
 ·refine nC fun q=>?_;cases q;refine RX fun _ q=>?_;subst q;refine fA fun _ q=>?_;subst q;exact Le.refl _
 ·refine nC fun q=>?_;cases q;refine nC fun q=>?_;cases q;exact Le.refl _
def liK (hi:List Ob):Nat:=(obC (hi.getD 2 .dead)).length
def abX (hi:List Ob)(v:D)(o:List Ob)(k:KV):R:=aI v fun r=>ag r<|bif Nat.beq (liK hi) 5 then KS o fun c=>k (.tup []) c.hp else bif Nat.beq (liK hi) 1 then R2 o fun c=>k (.tup []) c.hp else R3 o fun c=>k (.tup []) c.hp
def ό (hi:List Ob)(v:D)(o:List Ob)(k:KV):Le (abX hi v o k) (k v o):=by
 unfold abX;refine um fun _ q=>?_;subst q;refine lc fun q=>?_;subst q
 cases Nat.beq (liK hi) 5<;>simp only[cond_true,cond_false];rotate_left
 ·exact ZF fun c q=>by subst q;exact Le.refl _
 cases Nat.beq (liK hi) 1<;>simp only[cond_true,cond_false];rotate_left
 ·exact ZG fun c q=>by subst q;exact Le.refl _
 exact ZI fun c q=>by subst q;exact Le.refl _
def ab1 (hi:List Ob)(v:D)(o:List Ob)(k:KV):R:=aI v fun r=>bP r fun a r1=>dP a fun x=>aP .i64 x fun n=>bP r1 fun b r2=>dk (.p .nilif) b<|ag r2<|bh o fun c=>k (.tup [.p (.int .i64 n),.p .nilif]) c.hp
def ab0 (hi:List Ob)(v:D)(o:List Ob)(k:KV):R:=dk (.p .nilif) v<|bh o fun c=>k (.p .nilif) c.hp
def Ϗ (hi:List Ob)(v:D)(o:List Ob)(k:KV):Le (ab1 hi v o k) (k v o):=by
 unfold ab1;refine um fun _ q=>?_;subst q;refine iS fun _ _ q=>?_;subst q;refine RX fun _ q=>?_;subst q;refine fA fun _ q=>?_;subst q;refine iS fun _ _ q=>?_;subst q;refine nC fun q=>?_;subst q;refine lc fun q=>?_;subst q
 exact KR fun c q=>by subst q;exact Le.refl _
def ώ (hi:List Ob)(v:D)(o:List Ob)(k:KV):Le (ab0 hi v o k) (k v o):=by
 unfold ab0;refine nC fun q=>?_;subst q
 exact KR fun c q=>by subst q;exact Le.refl _
def aN {b:Bool}{x y:R}(h:Le x Z)(g:Le y Z):Le (bif b then x else y) Z:=by cases b<;>assumption
def ϋ {α:Type}(r:Rd D α)(hi:List Ob)(v:D)(o:List Ob)(k:KV):R:=r.d v fun a=>P1 hi o fun o=>k (r.e a) o
variable {α:Type}
def qr {r:Rd D α}(hi:List Ob)(v:D)(o:List Ob)(k:KV):Le (ϋ r hi v o k) (k v o):=r.le v _ _ fun a q=>by subst q;exact EP hi o (Le.refl _)
def caS {α:Type}(r:Rd D α)(hi:List Ob)(v:D)(o:List Ob)(k:KV):R:=r.d v fun a=>bF hi o<|k (r.e a) hi
def abZ {r:Rd D α}(hi:List Ob)(v:D)(o:List Ob)(k:KV):Le (caS r hi v o k) (k v o):=r.le v _ _ fun a q=>by subst q;exact ZB fun q=>by subst q;exact Le.refl _
def RN {α β:Type}(r:Rd D α)(s:Rd (List Ob) β)(hi:List Ob)(v:D)(o:List Ob)(k:KV):R:=r.d v fun a=>s.d o fun c=>k (r.e a) (s.e c)
def jA {β:Type}{r:Rd D α}{s:Rd (List Ob) β}(hi:List Ob)(v:D)(o:List Ob)(k:KV):Le (RN r s hi v o k) (k v o):=r.le v _ _ fun a q=>by subst q;exact s.le o _ _ fun c q=>by subst q;exact Le.refl _
def U3 {α β γ:Type}(r:Rd D α)(m:Nat)(s:Rd (List Ob) β)(n:Nat)(t:Rd (List Ob) γ)(hi:List Ob)(v:D)(o:List Ob)(k:KV):R:=r.d v fun a=>bif Nat.beq hi.length m then s.d o fun c=>k (r.e a) (s.e c)else bif Nat.beq hi.length n then t.d o fun c=>k (r.e a) (t.e c)else k (r.e a) o
def kK {β γ:Type}{r:Rd D α}{m n:Nat}{s:Rd (List Ob) β}{t:Rd (List Ob) γ}(hi:List Ob)(v:D)(o:List Ob)(k:KV):Le (U3 r m s n t hi v o k) (k v o):=r.le v _ _ fun a q=>by subst q;exact aN (s.le o _ _ fun c q=>by subst q;exact Le.refl _) (aN (t.le o _ _ fun c q=>by subst q;exact Le.refl _) (Le.refl _))
def Zh (f:Nat)(hi:List Ob)(v:D)(o:List Ob)(k:KV):R:=bif Nat.beq f 104 then abW hi v o k else bif Nat.beq f 25 then abX hi v o k else bif Nat.beq f 56 then ab1 hi v o k else bif Nat.beq f 57 then ab0 hi v o k else bif Nat.beq f 97 then abY hi v o k else bif eO f [7,9,16,17,19,20,21,30,47,49,50,51,52,53,54,64,66,68,69,78,79,83,87,88,91,93,94,96,99,115]then ϋ (.P .B) hi v o k else bif eO f [10,23,59,90]then ϋ (.P .S) hi v o k else bif eO f [11,14]then ϋ (.Tu (.c (.P r_api_Program) (.c (.P (.I .i64)) (.c (.P (.I .i64)) .n)))) hi v o k else bif eO f [12,18,29,31,32,33,34,35,36,37,38,39,81,82,84,85,86]then caS (.P .B) hi v o k else bif eO f [13]then ϋ (.Tu (.c (.P (.L 4)) (.c (.P (.I .i64)) (.c (.P (.I .i64)) .n)))) hi v o k else bif eO f [22,24,27,58,62,63]then RN (.Tu .n) r_PwB hi v o k else bif eO f [26]then RN (.Tu .n) r_PwR hi v o k else bif eO f [28]then U3 (.P .S) 1 r_PwA 2 r_PwD hi v o k else bif eO f [40,46,48,55,65,67,72,80,95,108,114]then ϋ (.P (.I .i64)) hi v o k else bif eO f [41,70,71]then ϋ (.Tu (.c (.P r_api_Token) (.c (.P (.I .i64)) (.c (.P (.I .i64)) .n)))) hi v o k else bif eO f [42,43,100]then U3 (.P .B) 1 r_PsB 2 r_PsA hi v o k else bif eO f [44,74]then U3 (.Tu .n) 1 r_PsB 2 r_PsA hi v o k else bif eO f [45]then ϋ (.P r_api_ActorType) hi v o k else bif eO f [60,61]then RN (.Tu .n) r_PwK hi v o k else bif eO f [73,101]then U3 (.P r_api_Token) 1 r_PsB 2 r_PsA hi v o k else bif eO f [75]then U3 (.P .S) 1 r_PsB 2 r_PsA hi v o k else bif eO f [76]then RN (.P r_api_Field) r_PsB hi v o k else bif eO f [77]then RN (.P r_api_Method) r_PsB hi v o k else bif eO f [89]then U3 (.Tu .n) 1 r_PwC 2 r_PwB hi v o k else bif eO f [92]then RN (.Tu .n) r_PwN hi v o k else bif eO f [98]then ϋ (.Tu (.c (.P (.I .u8)) (.c (.P (.I .i64)) .n))) hi v o k else bif eO f [102,118]then U3 (.P (.I .i64)) 1 r_PsB 2 r_PsA hi v o k else bif eO f [103]then U3 (.P r_api_Value) 1 r_PsB 2 r_PsA hi v o k else bif eO f [105]then RN (.P .B) r_PvB hi v o k else bif eO f [106]then RN (.Tu .n) r_KbQ hi v o k else bif eO f [107,122,131,132,133,134,135,146,147,155,156,159,160,161,162]then RN (.P (.I .i64)) r_PsA hi v o k else bif eO f [116,119]then U3 (.P .B) 2 r_PvB 3 ael hi v o k else bif eO f [117]then U3 (.Tu .n) 4 r_KbJ 5 aej hi v o k else bif eO f [120]then U3 (.Tu .n) 4 r_KbM 5 aek hi v o k else bif eO f [121,124]then RN (.Tu .n) r_PsA hi v o k else bif eO f [123]then U3 (.P (.I .i64)) 2 r_PsA 3 r_PsD hi v o k else bif eO f [136,145]then RN (.P (.L 1)) r_PsA hi v o k else bif eO f [153]then RN (.P .B) r_PsA hi v o k else bif eO f [154]then RN (.Tu .n) r_PsF hi v o k else k v o
def û (z:D)(x:Da)(k:Da->R):R:=match z with| .p (.int i _)=>aP i x fun n=>k (.int i n)| .p (.bool _)=>af x fun b=>k (.bool b)| .p (.agg cs)=>k x|_=>k x
def elI (z:Nat)(x:Da)(k:Da->R):R:=bif Nat.beq z 8 then bn x fun t=>k t.e else bif Nat.beq z 3 then bC x fun t=>k t.e else bif Nat.beq z 7 then cI x fun t=>k t.e else bif Nat.beq z 2 then cJ x fun t=>k t.e else bif Nat.beq z 5 then dS x fun t=>k t.e else bif Nat.beq z 2001 then dm x fun s=>k (.str s)else bif Nat.beq z 1 then aP .i64 x fun i=>k (.int .i64 i)else bif Nat.beq z 0 then aP .i64 x fun i=>k (.int .i64 i)else k x
def elS (z:Nat)(x:Da)(k:Da->R):R:=bif Nat.beq z 8 then bn x fun t=>k t.e else bif Nat.beq z 3 then bC x fun t=>k t.e else bif Nat.beq z 7 then cI x fun t=>k t.e else bif Nat.beq z 2 then cJ x fun t=>k t.e else bif Nat.beq z 5 then dS x fun t=>k t.e else bif Nat.beq z 2001 then dm x fun s=>k (.str s)else bif Nat.beq z 1 then dm x fun s=>k (.str s)else bif Nat.beq z 0 then dm x fun s=>k (.str s)else k x
def aci (z:Nat)(x:Da)(k:Da->R):R:=bif Nat.beq z 8 then bn x fun t=>k t.e else bif Nat.beq z 3 then bC x fun t=>k t.e else bif Nat.beq z 7 then cI x fun t=>k t.e else bif Nat.beq z 2 then cJ x fun t=>k t.e else bif Nat.beq z 5 then dS x fun t=>k t.e else bif Nat.beq z 4 then aQ x fun t=>k t.e else bif Nat.beq z 2001 then dm x fun s=>k (.str s)else bif Nat.beq z 1 then dm x fun s=>k (.str s)else bif Nat.beq z 0 then dm x fun s=>k (.str s)else k x
def elH (z:Nat)(x:Da)(k:Da->R):R:=bif Nat.beq z 8 then bn x fun t=>k t.e else bif Nat.beq z 3 then bC x fun t=>k t.e else bif Nat.beq z 7 then cI x fun t=>k t.e else bif Nat.beq z 2 then cJ x fun t=>k t.e else bif Nat.beq z 5 then dS x fun t=>k t.e else bif Nat.beq z 1008 then bn x fun t=>k t.e else bif Nat.beq z 1001 then aP .i64 x fun i=>k (.int .i64 i)else bif Nat.beq z 2001 then aP .i64 x fun i=>k (.int .i64 i)else bif Nat.beq z 1 then aP .i64 x fun i=>k (.int .i64 i)else bif Nat.beq z 0 then aP .i64 x fun i=>k (.int .i64 i)else k x
def elM (z:Nat)(x:Da)(k:Da->R):R:=bif Nat.beq z 8 then bn x fun t=>k t.e else bif Nat.beq z 3 then bC x fun t=>k t.e else bif Nat.beq z 7 then cI x fun t=>k t.e else bif Nat.beq z 2 then cJ x fun t=>k t.e else bif Nat.beq z 5 then dS x fun t=>k t.e else bif Nat.beq z 4 then dR x fun t=>k t.e else bif Nat.beq z 2001 then aP .i64 x fun i=>k (.int .i64 i)else bif Nat.beq z 1 then aP .i64 x fun i=>k (.int .i64 i)else bif Nat.beq z 0 then aP .i64 x fun i=>k (.int .i64 i)else k x
def dcI:kF:=⟨elI,Zh,û,false,true,false⟩
def afl:kF:=⟨elI,Zh,û,false,false,false⟩
def afk:kF:=⟨elI,Zh,û,true,true,false⟩
def dcS:kF:=⟨elS,Zh,û,false,true,false⟩
def adQ:kF:=⟨elS,Zh,û,false,false,false⟩
def adR:kF:=⟨aci,Zh,û,false,false,false⟩
def afj:kF:=⟨elH,Zh,û,false,false,true⟩
def dcM:kF:=⟨elM,Zh,û,false,true,false⟩
def adP:kF:=⟨elM,Zh,û,false,false,false⟩
def Pm (z:Nat)(x:Da)(k:Da->R):Le (elI z x k) (k x):=by
 unfold elI;exact aN (fi fun _ q=>by subst q;exact Le.refl _)<|aN (dy fun _ q=>by subst q;exact Le.refl _)<|aN (fX fun _ q=>by subst q;exact Le.refl _)<|aN (fY fun _ q=>by subst q;exact Le.refl _)<|aN (fZ fun _ q=>by subst q;exact Le.refl _)<|aN (ld fun _ q=>by subst q;exact Le.refl _)<|aN (fA fun _ q=>by subst q;exact Le.refl _)<|aN (fA fun _ q=>by subst q;exact Le.refl _)<|Le.refl _
def Z4 (z:Nat)(x:Da)(k:Da->R):Le (elS z x k) (k x):=by
 unfold elS;exact aN (fi fun _ q=>by subst q;exact Le.refl _)<|aN (dy fun _ q=>by subst q;exact Le.refl _)<|aN (fX fun _ q=>by subst q;exact Le.refl _)<|aN (fY fun _ q=>by subst q;exact Le.refl _)<|aN (fZ fun _ q=>by subst q;exact Le.refl _)<|aN (ld fun _ q=>by subst q;exact Le.refl _)<|aN (ld fun _ q=>by subst q;exact Le.refl _)<|aN (ld fun _ q=>by subst q;exact Le.refl _)<|Le.refl _
def Ϣ (z:Nat)(x:Da)(k:Da->R):Le (aci z x k) (k x):=by
 unfold aci;exact aN (fi fun _ q=>by subst q;exact Le.refl _)<|aN (dy fun _ q=>by subst q;exact Le.refl _)<|aN (fX fun _ q=>by subst q;exact Le.refl _)<|aN (fY fun _ q=>by subst q;exact Le.refl _)<|aN (fZ fun _ q=>by subst q;exact Le.refl _)<|aN (A4 fun _ q=>by subst q;exact Le.refl _)<|aN (ld fun _ q=>by subst q;exact Le.refl _)<|aN (ld fun _ q=>by subst q;exact Le.refl _)<|aN (ld fun _ q=>by subst q;exact Le.refl _)<|Le.refl _
def ach (z:Nat)(x:Da)(k:Da->R):Le (elH z x k) (k x):=by
 unfold elH;exact aN (fi fun _ q=>by subst q;exact Le.refl _)<|aN (dy fun _ q=>by subst q;exact Le.refl _)<|aN (fX fun _ q=>by subst q;exact Le.refl _)<|aN (fY fun _ q=>by subst q;exact Le.refl _)<|aN (fZ fun _ q=>by subst q;exact Le.refl _)<|aN (fi fun _ q=>by subst q;exact Le.refl _)<|aN (fA fun _ q=>by subst q;exact Le.refl _)<|aN (fA fun _ q=>by subst q;exact Le.refl _)<|aN (fA fun _ q=>by subst q;exact Le.refl _)<|aN (fA fun _ q=>by subst q;exact Le.refl _)<|Le.refl _
def Z1 (z:Nat)(x:Da)(k:Da->R):Le (elM z x k) (k x):=by
 unfold elM;exact aN (fi fun _ q=>by subst q;exact Le.refl _)<|aN (dy fun _ q=>by subst q;exact Le.refl _)<|aN (fX fun _ q=>by subst q;exact Le.refl _)<|aN (fY fun _ q=>by subst q;exact Le.refl _)<|aN (fZ fun _ q=>by subst q;exact Le.refl _)<|aN (yP fun _ q=>by subst q;exact Le.refl _)<|aN (fA fun _ q=>by subst q;exact Le.refl _)<|aN (fA fun _ q=>by subst q;exact Le.refl _)<|aN (fA fun _ q=>by subst q;exact Le.refl _)<|Le.refl _
def oK (f:Nat)(hi:List Ob)(v:D)(o:List Ob)(k:KV):Le (Zh f hi v o k) (k v o):=by
 unfold Zh;exact aN (ϊ hi v o k)<|aN (ό hi v o k)<|aN (Ϗ hi v o k)<|aN (ώ hi v o k)<|aN (ύ hi v o k)<|aN (qr hi v o k)<|aN (qr hi v o k)<|aN (qr hi v o k)<|aN (abZ hi v o k)<|aN (qr hi v o k)<|aN (jA hi v o k)<|aN (jA hi v o k)<|aN (kK hi v o k)<|aN (qr hi v o k)<|aN (qr hi v o k)<|aN (kK hi v o k)<|aN (kK hi v o k)<|aN (qr hi v o k)<|aN (jA hi v o k)<|aN (kK hi v o k)<|aN (kK hi v o k)<|aN (jA hi v o k)<|aN (jA hi v o k)<|aN (kK hi v o k)<|aN (jA hi v o k)<|aN (qr hi v o k)<|aN (kK hi v o k)<|aN (kK hi v o k)<|aN (jA hi v o k)<|aN (jA hi v o k)<|aN (jA hi v o k)<|aN (kK hi v o k)<|aN (kK hi v o k)<|aN (kK hi v o k)<|aN (jA hi v o k)<|aN (kK hi v o k)<|aN (jA hi v o k)<|aN (jA hi v o k)<|aN (jA hi v o k)<|Le.refl _
def oR (z:D)(x:Da)(k:Da->R):Le (û z x k) (k x):=by
 unfold û;split
 ·exact fA fun _ q=>by subst q;exact Le.refl _
 ·exact A1 fun _ q=>by subst q;exact Le.refl _
 ·skip
  exact Le.refl _
 ·exact Le.refl _
def be:(dcI).Ok:=⟨Pm,oK,oR⟩
def R5:(afk).Ok:=⟨Pm,oK,oR⟩
def bm:(afl).Ok:=⟨Pm,oK,oR⟩
def lN:(dcS).Ok:=⟨Z4,oK,oR⟩
def oL:(adQ).Ok:=⟨Z4,oK,oR⟩
def ao:(adR).Ok:=⟨Ϣ,oK,oR⟩
def Gs:(afj).Ok:=⟨ach,oK,oR⟩
def Pl:(dcM).Ok:=⟨Z1,oK,oR⟩
def iU:(adP).Ok:=⟨Z1,oK,oR⟩
def fc (f:Nat):Fx:=(VA prog0 globs0 aa4 f).getD ⟨.skip,[],false⟩
variable {dc:kF}
def fnT (lp:ab->df)(F:ab->R){f n m:Nat}{args:List D}{hp:List Ob}(hd:dc.Ok)(hx:lay0.tab f=some (.code (fc f)))(hm:eH f args hp.length=m)(hl:∀{cc:ab} {call:aw},bA cc call->∀e∈cq (fc f).body 1,bk (lp cc) call n m e)(h:∀cc,WA m (lp cc) dc cc n (fc f) args hp=F cc):Le (F (cE lay0.tab n)) (evFn lay0.tab (n+1) f args hp):=
 adV hd hx hm (hl (Ä _ _)) (h _)
def iC (F:ab->R)(f:Nat)(args:List D)(hp:List Ob)(m n:Nat)(hd:dc.Ok)(lp:ab->df){l:List (Nat×LN×Co×Bool)}(hl:∀{cc:ab} {call:aw},bA cc call->tA (lp cc) call n m l)(hx:lay0.tab f=some (.code (fc f)):=by kernel_rfl)(hm:eH f args hp.length=m:=by kernel_rfl)(hb:cq (fc f).body 1=l:=by kernel_rfl)(h:∀cc,WA m (lp cc) dc cc n (fc f) args hp=F cc:=by intro _;kernel_rfl):Le (F (cE lay0.tab n)) (evFn lay0.tab (n+1) f args hp):=
 fnT lp F hd hx hm (fun hc=>Kh hb (hl hc)) h
def dA (F:ab->R)(f:Nat)(args:List D)(hp:List Ob)(m n:Nat)(hd:dc.Ok)(hx:lay0.tab f=some (.code (fc f)):=by kernel_rfl)(hm:eH f args hp.length=m:=by kernel_rfl)(hb:cq (fc f).body 1=[]:=by kernel_rfl)(h:∀cc,WA m cw dc cc n (fc f) args hp=F cc:=by intro _;kernel_rfl):Le (F (cE lay0.tab n)) (evFn lay0.tab (n+1) f args hp):=
 iC F f args hp m n hd (fun _=>cw) (fun _=>aA) hx hm hb h
section
variable {ST:Type} {q:Nat} {r:Rd eQ ST} {lp:df} {dc:kF} {cc:ab} {call:aw} {n m:Nat} {live:LN} {b:Co} {l:List (Nat×LN×Co×Bool)}
def cu {S:JJ->(ST->R)->ST->R}(hd:dc.Ok)(hc:bA cc call)(hin:tA lp call n m l)(hl:cq b q=l:=by kernel_rfl)
  (hS:∀(J:JJ) (Y:ST->R) st,rE lp dc cc n m b q (r.e st).1 (r.e st).2 (fun ex tm hp=>Lg ex (CZ m live tm hp fun tm hp=>r.d (tm,hp) Y) (fun i=>J (.exit i) tm hp) (J .ret tm hp))=S J Y st:=by intro _ _ _;kernel_rfl):bk (gH q r S lp) call n m (q,live,b,true):=acI hd hc hS (Kh hl hin)
def aea {S:JJ->(ST->R)->ST->R}(hd:dc.Ok)(hc:bA cc call)(hin:tA lp call n m l)(hl:cq b q=l:=by kernel_rfl)
  (hS:∀(J:JJ) (Y:ST->R) st,rE lp dc cc n m b q (r.e st).1 (r.e st).2 (fun ex tm hp=>Lg ex (CZ m live tm hp fun tm hp=>r.d (tm,hp) Y) (fun i=>J (.exit i) tm hp) (J .ret tm hp))=S J Y st:=by intro _ _ _;kernel_rfl):bk (lpP dc cc q r S lp) call n m (q,live,b,true):=acM hd hc hS (Kh hl hin)
def Ho {S:JJ->ST->R}(hd:dc.Ok)(hc:bA cc call)(hin:tA lp call n m l)(hl:cq b (4*q+3)=l:=by kernel_rfl)
  (hS:∀(J:JJ) st,rE lp dc cc n m b (4*q+3) (r.e st).1 (r.e st).2 J=S J st:=by intro _ _;kernel_rfl):bk (VW q r S lp) call n m (q,live,b,false):=acK hd hc hS (Kh hl hin)
def P3 {S:JJ->(ST->R)->ST->R}{e:Nat×LN×Co×Bool}(h:bk lp call n m e)(hq:Nat.beq e.1 q=false:=by kernel_rfl):bk (gH q r S lp) call n m e:=acJ hq h
def pR {S:JJ->ST->R}{e:Nat×LN×Co×Bool}(h:bk lp call n m e)(hq:Nat.beq e.1 q=false:=by kernel_rfl):bk (VW q r S lp) call n m e:=acL hq h
end
abbrev Ω:=evFn lay0.tab
end
end Go.Ab
