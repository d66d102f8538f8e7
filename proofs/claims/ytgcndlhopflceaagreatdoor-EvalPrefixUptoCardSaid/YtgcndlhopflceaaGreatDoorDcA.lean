import Derived.Test.YtgcndlhopflceaaGreatDoorAl
import Derived.Test.YtgcndlhopflceaaGreatDoorAwZ
import Derived.KernelRfl
set_option linter.all false
namespace Go.Ab
open Go
set_option maxRecDepth 100000
noncomputable section
class Iso (A B:Type) where
 f:A->B
 g:B->A
 h:∀a,g (f a)=a
section
variable {A B C D:Type}
instance (priority:=10) iso0:Iso A A:=⟨id,id,fun _=>rfl⟩
instance isoU [s:Iso A B]:Iso (A×Unit) B:=⟨fun a=>s.f a.1,fun b=>(s.g b,()),fun a=>by rw[s.h]⟩
instance (priority:=20) isoP [s:Iso A B][u:Iso C D]:Iso (A×C) (B×D):=⟨fun a=>(s.f a.1,u.f a.2),fun b=>(s.g b.1,u.g b.2),fun a=>by rw[s.h,u.h]⟩
instance (priority:=5) isoA {Z:Type}[s:Iso (A×B×C) Z]:Iso ((A×B)×C) Z:=⟨fun a=>s.f (a.1.1,a.1.2,a.2),fun z=>(((s.g z).1,(s.g z).2.1),(s.g z).2.2),fun a=>by rw[s.h]⟩
instance (priority:=30) isoN {Z:Type}[s:Iso C Z]:Iso (Unit×C) Z:=⟨fun a=>s.f a.2,fun z=>((),s.g z),fun a=>by rw[s.h]⟩
end
namespace Rd
variable {T α β:Type}
def tl (r:Rd T α)[s:Iso α β]:Rd T β:=r.rm s.f s.g s.h
def i (k:Nat)(r:Rd (Tm×List Go.Ab.Ob) β):=t k (P (I .i64)) r
def l (k z:Nat)(r:Rd (Tm×List Go.Ab.Ob) β):=t k (P (L z)) r
def b (k:Nat)(r:Rd (Tm×List Go.Ab.Ob) β):=t k (P B) r
def s (k:Nat)(r:Rd (Tm×List Go.Ab.Ob) β):=t k (P S) r
def o (k i:Nat)(r:Rd (Tm×List Go.Ab.Ob) β):=v k (Bo i 0) r
def ci (r:Rd (List D) β):=c (P (I .i64)) r
def cl (z:Nat)(r:Rd (List D) β):=c (P (L z)) r
def cs (r:Rd (List D) β):=c (P S) r
def co (i:Nat)(r:Rd (List D) β):=u (Bo i 0) r
def gi (r:Rd (LD) β):=c (I .i64) r
def gl (z:Nat)(r:Rd (LD) β):=c (L z) r
def gs (r:Rd (LD) β):=c S r
end Rd
abbrev pI (i:Int):D:= .p (.int .i64 i)
abbrev pL (z:Nat)(l:LD):D:= .p (.slice z l)
abbrev pS (s:LN):D:= .p (.str s)
abbrev pB (b:Bool):D:= .p (.bool b)
def tI (k:Nat)(i:Int)(r:Tm):Tm:= .cons k (.p (.int .i64 i)) r
def tL (k z:Nat)(l:LD)(r:Tm):Tm:= .cons k (.p (.slice z l)) r
def tS (k:Nat)(s:LN)(r:Tm):Tm:= .cons k (.p (.str s)) r
def tB (k:Nat)(b:Bool)(r:Tm):Tm:= .cons k (.p (.bool b)) r
def tO (k i:Nat)(r:Tm):Tm:= .cons k (.box i 0) r
abbrev rT:R:=some (.p (.bool true),[])
abbrev rF:R:=some (.p (.bool false),[])
def nt {ST:Type}{S:(ST->R)->ST->R}{q:Nat}{h:ST}:itL S (q+1) h=S (itL S q) h:=rfl
def aaE (a b:Ob):Bool:= @decide (a=b) (Classical.propDecidable _)
noncomputable instance mvG:Mv:=⟨fun f=>gK f [71,72,103,106,156,19,53,21,158,52,49,47,51,50,54,20,109,110,157,162],fun f=>bif gK f [109,110,157,162]then 1 else 0,fun f=>gK f [79],fun a b=>Ib a b||aaE a b,fun a b h=>by rw[qα]at h;exact h.elim OZ (@of_decide_eq_true _ (Classical.propDecidable _)),fun _ _ a=>by rw[qα];exact .inr (@mη _ (Classical.propDecidable _) rfl)⟩
def aW (hi o:List Ob)(k:R):R:= @ite _ (o=hi) (Classical.propDecidable _) k none
variable {hi:List Ob} {Z:R}
def rH {o:List Ob}{k:R}(h:o=hi->Le k Z):Le (aW hi o k) Z:=by
 unfold aW;split
 ·rename_i e;exact h e
 ·exact Le.no _
def ib (c d:D)(k:R):R:= @ite _ (d=c) (Classical.propDecidable _) k none
def gu {c d:D}{k:R}(h:d=c->Le k Z):Le (ib c d k) Z:=by
 unfold ib;split
 ·rename_i e;exact h e
 ·exact Le.no _
def iQ (c:D)(k:R):ib c c k=k:=by
 unfold ib;exact if_pos rfl
def aX (hi:List Ob)(k:R):aW hi hi k=k:=by
 unfold aW;exact if_pos rfl
structure au where
 Types:LD
def au.e (t:au):Da:= .agg [.slice 3 t.Types]
def au.b (t:au):Ob:= .box [.p (.slice 3 t.Types)]
instance:Iso (LD×Unit) au:=⟨fun(Types,())=>⟨Types⟩,fun t=>(t.Types,()),fun _=>rfl⟩
structure ah where
 (Kind N:Int)
 S:LN
 (I L:LD)
def ah.e (t:ah):Da:= .agg [.int .i64 t.Kind,.int .i64 t.N,.str t.S,.slice 1 t.I,.slice 1 t.L]
def ah.b (t:ah):Ob:= .box [.p (.int .i64 t.Kind),.p (.int .i64 t.N),.p (.str t.S),.p (.slice 1 t.I),.p (.slice 1 t.L)]
instance:Iso (Int×Int×LN×LD×LD×Unit) ah:=⟨fun(Kind,N,S,I,L,())=>⟨Kind,N,S,I,L⟩,fun t=>(t.Kind,t.N,t.S,t.I,t.L,()),fun _=>rfl⟩
def r_api_Value:Rd Da ah:= .tl<| .G (.gi<| .gi<| .gs<| .gl 1<| .gl 1 .n)
def ag (x:Da)(k:ah->R):R:=r_api_Value.d x k
variable {x:Da}
def bV {k:ah->R}(h:∀t:ah,x=t.e->Le (k t) Z):Le (ag x k) Z:=r_api_Value.le _ _ _ h
structure iA where
 (Target_Type Target_Key Method:LN)
 Args:LD
def iA.e (t:iA):Da:= .agg [.str t.Target_Type,.str t.Target_Key,.str t.Method,.slice 5 t.Args]
def iA.b (t:iA):Ob:= .box [.p (.str t.Target_Type),.p (.str t.Target_Key),.p (.str t.Method),.p (.slice 5 t.Args)]
structure c8 where
 (Kind Value_Kind Value_N:Int)
 Value_S:LN
 (Value_I Value_L:LD)
 (Call_Target_Type Call_Target_Key Call_Method:LN)
 Call_Args:LD
 (Err Machine_Type Machine_Method Machine_PC:Int)
 (Machine_Locals Fields Effects:LD)
 Fuel:Int
def c8.e (t:c8):Da:= .agg [.int .i64 t.Kind,.int .i64 t.Value_Kind,.int .i64 t.Value_N,.str t.Value_S,.slice 1 t.Value_I,.slice 1 t.Value_L,.str t.Call_Target_Type,.str t.Call_Target_Key,.str t.Call_Method,.slice 5 t.Call_Args,.int .i64 t.Err,.int .i64 t.Machine_Type,.int .i64 t.Machine_Method,.int .i64 t.Machine_PC,.slice 5 t.Machine_Locals,.slice 5 t.Fields,.slice 4 t.Effects,.int .i64 t.Fuel]
def c8.b (t:c8):Ob:= .box [.p (.int .i64 t.Kind),.p (.int .i64 t.Value_Kind),.p (.int .i64 t.Value_N),.p (.str t.Value_S),.p (.slice 1 t.Value_I),.p (.slice 1 t.Value_L),.p (.str t.Call_Target_Type),.p (.str t.Call_Target_Key),.p (.str t.Call_Method),.p (.slice 5 t.Call_Args),.p (.int .i64 t.Err),.p (.int .i64 t.Machine_Type),.p (.int .i64 t.Machine_Method),.p (.int .i64 t.Machine_PC),.p (.slice 5 t.Machine_Locals),.p (.slice 5 t.Fields),.p (.slice 4 t.Effects),.p (.int .i64 t.Fuel)]
def r_api_Segment:Rd Da c8:= .rm (.G (.gi<| .gi<| .gi<| .gs<| .gl 1<| .gl 1<| .gs<| .gs<| .gs<| .gl 5<| .gi<| .gi<| .gi<| .gi<| .gl 5<| .gl 5<| .gl 4<| .gi .n)) (fun(v0,(v1,(v2,(v3,(v4,(v5,(v6,(v7,(v8,(v9,(v10,(v11,(v12,(v13,(v14,(v15,(v16,(v17,()))))))))))))))))))=>⟨v0,v1,v2,v3,v4,v5,v6,v7,v8,v9,v10,v11,v12,v13,v14,v15,v16,v17⟩) (fun t=>(t.Kind,(t.Value_Kind,(t.Value_N,(t.Value_S,(t.Value_I,(t.Value_L,(t.Call_Target_Type,(t.Call_Target_Key,(t.Call_Method,(t.Call_Args,(t.Err,(t.Machine_Type,(t.Machine_Method,(t.Machine_PC,(t.Machine_Locals,(t.Fields,(t.Effects,(t.Fuel,())))))))))))))))))))
def aY (x:Da)(k:c8->R):R:=r_api_Segment.d x k
def c9 {k:c8->R}(h:∀t:c8,x=t.e->Le (k t) Z):Le (aY x k) Z:=r_api_Segment.le _ _ _ h
structure dy where
 Fields:LD
 (Reply_Kind Reply_N:Int)
 Reply_S:LN
 (Reply_I Reply_L:LD)
def dy.e (t:dy):Da:= .agg [.slice 5 t.Fields,.int .i64 t.Reply_Kind,.int .i64 t.Reply_N,.str t.Reply_S,.slice 1 t.Reply_I,.slice 1 t.Reply_L]
def dy.b (t:dy):Ob:= .box [.p (.slice 5 t.Fields),.p (.int .i64 t.Reply_Kind),.p (.int .i64 t.Reply_N),.p (.str t.Reply_S),.p (.slice 1 t.Reply_I),.p (.slice 1 t.Reply_L)]
def r_api_Input:Rd Da dy:= .rm (.G (.gl 5<| .gi<| .gi<| .gs<| .gl 1<| .gl 1 .n)) (fun(v0,(v1,(v2,(v3,(v4,(v5,()))))))=>⟨v0,v1,v2,v3,v4,v5⟩) (fun t=>(t.Fields,(t.Reply_Kind,(t.Reply_N,(t.Reply_S,(t.Reply_I,(t.Reply_L,())))))))
def bQ (x:Da)(k:dy->R):R:=r_api_Input.d x k
def dZ {k:dy->R}(h:∀t:dy,x=t.e->Le (k t) Z):Le (bQ x k) Z:=r_api_Input.le _ _ _ h
structure bb where
 (Type_ Method Node:Int)
def bb.e (t:bb):Da:= .agg [.int .i64 t.Type_,.int .i64 t.Method,.int .i64 t.Node]
def bb.b (t:bb):Ob:= .box [.p (.int .i64 t.Type_),.p (.int .i64 t.Method),.p (.int .i64 t.Node)]
def r_api_Place:Rd Da bb:= .rm (.G (.gi<| .gi<| .gi .n)) (fun(v0,(v1,(v2,())))=>⟨v0,v1,v2⟩) (fun t=>(t.Type_,(t.Method,(t.Node,()))))
def gv (x:Da)(k:bb->R):R:=r_api_Place.d x k
def yI {k:bb->R}(h:∀t:bb,x=t.e->Le (k t) Z):Le (gv x k) Z:=r_api_Place.le _ _ _ h
structure ae where
 Name:LN
 (Fields Methods:LD)
def ae.e (t:ae):Da:= .agg [.str t.Name,.slice 7 t.Fields,.slice 4 t.Methods]
def ae.b (t:ae):Ob:= .box [.p (.str t.Name),.p (.slice 7 t.Fields),.p (.slice 4 t.Methods)]
instance:Iso (LN×LD×LD×Unit) ae:=⟨fun(Name,Fields,Methods,())=>⟨Name,Fields,Methods⟩,fun t=>(t.Name,t.Fields,t.Methods,()),fun _=>rfl⟩
def r_api_ActorType:Rd Da ae:= .tl<| .G (.gs<| .gl 7<| .gl 4 .n)
def bq (x:Da)(k:ae->R):R:=r_api_ActorType.d x k
def de {k:ae->R}(h:∀t:ae,x=t.e->Le (k t) Z):Le (bq x k) Z:=r_api_ActorType.le _ _ _ h
structure aA where
 Name:LN
 Params:LD
 Result:Int
 Nodes:LD
def aA.e (t:aA):Da:= .agg [.str t.Name,.slice 2 t.Params,.int .i64 t.Result,.slice 8 t.Nodes]
def aA.b (t:aA):Ob:= .box [.p (.str t.Name),.p (.slice 2 t.Params),.p (.int .i64 t.Result),.p (.slice 8 t.Nodes)]
instance:Iso (LN×LD×Int×LD×Unit) aA:=⟨fun(Name,Params,Result,Nodes,())=>⟨Name,Params,Result,Nodes⟩,fun t=>(t.Name,t.Params,t.Result,t.Nodes,()),fun _=>rfl⟩
def r_api_Method:Rd Da aA:= .tl<| .G (.gs<| .gl 2<| .gi<| .gl 8 .n)
def bM (x:Da)(k:aA->R):R:=r_api_Method.d x k
def dz {k:aA->R}(h:∀t:aA,x=t.e->Le (k t) Z):Le (bM x k) Z:=r_api_Method.le _ _ _ h
structure cG where
 Name:LN
 Kind:Int
def cG.e (t:cG):Da:= .agg [.str t.Name,.int .i64 t.Kind]
def cG.b (t:cG):Ob:= .box [.p (.str t.Name),.p (.int .i64 t.Kind)]
def r_api_Param:Rd Da cG:= .rm (.G (.gs<| .gi .n)) (fun(v0,(v1,()))=>⟨v0,v1⟩) (fun t=>(t.Name,(t.Kind,())))
def cR (x:Da)(k:cG->R):R:=r_api_Param.d x k
def fA {k:cG->R}(h:∀t:cG,x=t.e->Le (k t) Z):Le (cR x k) Z:=r_api_Param.le _ _ _ h
structure cf where
 Name:LN
 (Kind Init_Kind Init_N:Int)
 Init_S:LN
 (Init_I Init_L:LD)
def cf.e (t:cf):Da:= .agg [.str t.Name,.int .i64 t.Kind,.int .i64 t.Init_Kind,.int .i64 t.Init_N,.str t.Init_S,.slice 1 t.Init_I,.slice 1 t.Init_L]
def cf.b (t:cf):Ob:= .box [.p (.str t.Name),.p (.int .i64 t.Kind),.p (.int .i64 t.Init_Kind),.p (.int .i64 t.Init_N),.p (.str t.Init_S),.p (.slice 1 t.Init_I),.p (.slice 1 t.Init_L)]
def r_api_Field:Rd Da cf:= .rm (.G (.gs<| .gi<| .gi<| .gi<| .gs<| .gl 1<| .gl 1 .n)) (fun(v0,(v1,(v2,(v3,(v4,(v5,(v6,())))))))=>⟨v0,v1,v2,v3,v4,v5,v6⟩) (fun t=>(t.Name,(t.Kind,(t.Init_Kind,(t.Init_N,(t.Init_S,(t.Init_I,(t.Init_L,()))))))))
def cq (x:Da)(k:cf->R):R:=r_api_Field.d x k
def dY {k:cf->R}(h:∀t:cf,x=t.e->Le (k t) Z):Le (cq x k) Z:=r_api_Field.le _ _ _ h
structure af where
 Op:Int
 Name:LN
 (Value_Kind Value_N:Int)
 Value_S:LN
 (Value_I Value_L Kids:LD)
def af.e (t:af):Da:= .agg [.int .i64 t.Op,.str t.Name,.int .i64 t.Value_Kind,.int .i64 t.Value_N,.str t.Value_S,.slice 1 t.Value_I,.slice 1 t.Value_L,.slice 1 t.Kids]
def af.b (t:af):Ob:= .box [.p (.int .i64 t.Op),.p (.str t.Name),.p (.int .i64 t.Value_Kind),.p (.int .i64 t.Value_N),.p (.str t.Value_S),.p (.slice 1 t.Value_I),.p (.slice 1 t.Value_L),.p (.slice 1 t.Kids)]
instance:Iso (Int×LN×Int×Int×LN×LD×LD×LD×Unit) af:=⟨fun(Op,Name,Value_Kind,Value_N,Value_S,Value_I,Value_L,Kids,())=>⟨Op,Name,Value_Kind,Value_N,Value_S,Value_I,Value_L,Kids⟩,fun t=>(t.Op,t.Name,t.Value_Kind,t.Value_N,t.Value_S,t.Value_I,t.Value_L,t.Kids,()),fun _=>rfl⟩
def r_api_Node:Rd Da af:= .tl<| .G (.gi<| .gs<| .gi<| .gi<| .gs<| .gl 1<| .gl 1<| .gl 1 .n)
def bf (x:Da)(k:af->R):R:=r_api_Node.d x k
def dE {k:af->R}(h:∀t:af,x=t.e->Le (k t) Z):Le (bf x k) Z:=r_api_Node.le _ _ _ h
structure bu where
 (kind slot:Int)
 field:Bool
def bu.e (t:bu):Da:= .agg [.int .i64 t.kind,.int .i64 t.slot,.bool t.field]
def bu.b (t:bu):Ob:= .box [.p (.int .i64 t.kind),.p (.int .i64 t.slot),.p (.bool t.field)]
def r_types_variable:Rd Da bu:= .rm (.G (.gi<| .gi<| .c .B .n)) (fun(v0,(v1,(v2,())))=>⟨v0,v1,v2⟩) (fun t=>(t.kind,(t.slot,(t.field,()))))
def aV (x:Da)(k:bu->R):R:=r_types_variable.d x k
def pF {k:bu->R}(h:∀t:bu,x=t.e->Le (k t) Z):Le (aV x k) Z:=r_types_variable.le _ _ _ h
structure cX where
 locals:LD
 (kinds variables:Da)
def cX.e (t:cX):Da:= .agg [.slice 2 t.locals,t.kinds,t.variables]
def cX.b (t:cX):Ob:= .box [.p (.slice 2 t.locals),.p (t.kinds),.p (t.variables)]
def r_types_body:Rd Da cX:= .rm (.G (.gl 2<| .c .X (.c .X .n))) (fun(v0,(v1,(v2,())))=>⟨v0,v1,v2⟩) (fun t=>(t.locals,(t.kinds,(t.variables,()))))
def jx (x:Da)(k:cX->R):R:=r_types_body.d x k
def wx {k:cX->R}(h:∀t:cX,x=t.e->Le (k t) Z):Le (jx x k) Z:=r_types_body.le _ _ _ h
structure hY where
 Kind:Int
 Name:LN
 (A B:Int)
def hY.e (t:hY):Da:= .agg [.int .i64 t.Kind,.str t.Name,.int .i64 t.A,.int .i64 t.B]
def hY.b (t:hY):Ob:= .box [.p (.int .i64 t.Kind),.p (.str t.Name),.p (.int .i64 t.A),.p (.int .i64 t.B)]
def r_api_Effect:Rd Da hY:= .rm (.G (.gi<| .gs<| .gi<| .gi .n)) (fun(v0,(v1,(v2,(v3,()))))=>⟨v0,v1,v2,v3⟩) (fun t=>(t.Kind,(t.Name,(t.A,(t.B,())))))
def rI (x:Da)(k:hY->R):R:=r_api_Effect.d x k
def acu {k:hY->R}(h:∀t:hY,x=t.e->Le (k t) Z):Le (rI x k) Z:=r_api_Effect.le _ _ _ h
structure bX where
 params:LD
 result:Int
def bX.e (t:bX):Da:= .agg [.slice 1 t.params,.int .i64 t.result]
def bX.b (t:bX):Ob:= .box [.p (.slice 1 t.params),.p (.int .i64 t.result)]
def r_types_signature:Rd Da bX:= .rm (.G (.gl 1<| .gi .n)) (fun(v0,(v1,()))=>⟨v0,v1⟩) (fun t=>(t.params,(t.result,())))
def fe (x:Da)(k:bX->R):R:=r_types_signature.d x k
def oa {k:bX->R}(h:∀t:bX,x=t.e->Le (k t) Z):Le (fe x k) Z:=r_types_signature.le _ _ _ h
structure eM where
 (pr fk fv ns:LD)
 re:Int
 ln:Nat
 (nd er:Int)
 (sk sv lk lv lo kk kv vk vv:LD)
def eM.hp (c:eM):List Ob:=[.box [.p (.slice 3 c.pr),.p (.map c.fk c.fv),.map 1,.map 2,.p (.slice 8 c.ns),.p (.int .i64 c.re),.arr 3 0 c.ln 2,.map 4,.map 5,.p (.int .i64 c.nd),.p (.int .i64 c.er)],.map c.sk c.sv,.map c.lk c.lv,.arr c.lo,.map c.kk c.kv,.map c.vk c.vv]
def r_Ckr:Rd (List Ob) eM:= .rm (.c (.Ob (.cl 3<| .c (.P .M)<| .u (.Mp 1)<| .u (.Mp 2)<| .cl 8<| .ci<| .c (.Ar 3 2)<| .u (.Mp 4)<| .u (.Mp 5)<| .ci<| .ci .n)) (.c .Om (.c .Om (.c .Oa<| .c .Om (.c .Om .n))))) (fun((pr,((fk,fv),(ns,(re,(ln,(nd,(er,()))))))),((sk,sv),((lk,lv),(lo,((kk,kv),((vk,vv),()))))))=>⟨pr,fk,fv,ns,re,ln,nd,er,sk,sv,lk,lv,lo,kk,kv,vk,vv⟩) (fun c=>((c.pr,((c.fk,c.fv),(c.ns,(c.re,(c.ln,(c.nd,(c.er,()))))))),((c.sk,c.sv),((c.lk,c.lv),(c.lo,((c.kk,c.kv),((c.vk,c.vv),())))))))
def aK (o:List Ob)(k:eM->R):R:=r_Ckr.d o k
structure fH where
 ty:LD
 bn:Nat
 bs:LD
def fH.hp (c:fH):List Ob:=[.box [.p (.slice 3 c.ty),.arr 1 0 c.bn 1],.arr c.bs]
def r_Inf:Rd (List Ob) fH:= .rm (.c (.Ob (.cl 3<| .c (.Ar 1 1) .n)) (.c .Oa .n)) (fun((ty,(bn,())),(bs,()))=>⟨ty,bn,bs⟩) (fun c=>((c.ty,(c.bn,())),(c.bs,())))
def ON (o:List Ob)(k:fH->R):R:=r_Inf.d o k
def Wn {o:List Ob}{k:fH->R}(h:∀c:fH,o=c.hp->Le (k c) Z):Le (ON o k) Z:=r_Inf.le _ _ _ h
def Ι (hi:List Ob)(v:D)(o:List Ob)(k:KV):R:=dMp 1 v<|aW (hi++hi) o<|k (.map 1) (hi++hi)
def ZT (hi:List Ob)(v:D)(o:List Ob)(k:KV):Le (Ι hi v o k) (k v o):=by
 unfold Ι;refine LS fun q=>?_;subst q;exact rH fun q=>by subst q;exact Le.refl _
def ZF:D:=(.p (.map [.str [108,101,110],.str [97,116],.str [97,112,112,101,110,100],.str [115,101,116],.str [115,116,114]] [.slice 2 [.agg [.slice 1 [.int .i64 3],.int .i64 1],.agg [.slice 1 [.int .i64 4],.int .i64 1],.agg [.slice 1 [.int .i64 5],.int .i64 1]],.slice 2 [.agg [.slice 1 [.int .i64 4,.int .i64 1],.int .i64 1],.agg [.slice 1 [.int .i64 5,.int .i64 1],.int .i64 3]],.slice 2 [.agg [.slice 1 [.int .i64 4,.int .i64 1],.int .i64 4],.agg [.slice 1 [.int .i64 5,.int .i64 3],.int .i64 5]],.slice 2 [.agg [.slice 1 [.int .i64 4,.int .i64 1,.int .i64 1],.int .i64 4],.agg [.slice 1 [.int .i64 5,.int .i64 1,.int .i64 3],.int .i64 5]],.slice 2 [.agg [.slice 1 [.int .i64 1],.int .i64 3]]]))
def Δ (hi:List Ob)(v:D)(o:List Ob)(k:KV):R:=ib ZF v<|aW [] o<|k ZF []
def ZO (hi:List Ob)(v:D)(o:List Ob)(k:KV):Le (Δ hi v o k) (k v o):=by
 unfold Δ;refine gu fun q=>?_;subst q;exact rH fun q=>by subst q;exact Le.refl _
def é:Da->Bool| .nilmap=>true|_=>false
def Γ (hi:List Ob)(v:D)(o:List Ob)(k:KV):R:=ba v fun r0=>aJ r0 fun d0 r1=>aJ r1 fun d1 r2=>dP d0 fun x0=>HV x0 fun l0=>aJ l0 fun y0 l1=>DE 2 y0 fun lo=>aJ l1 fun y1 l2=>aJ l2 fun y2 l3=>aj l3<|dP d1 fun x1=>aB x1 fun b=>aj r2<|aW hi o<|iL (é y1) (We y1<|We y2<|k (.tup [.p (.agg [.slice 2 lo,.nilmap,.nilmap]),.p (.bool b)]) hi) (yG y1 fun kk kv=>yG y2 fun vk vv=>k (.tup [.p (.agg [.slice 2 lo,.map kk kv,.map vk vv]),.p (.bool b)]) hi)
def ZN (hi:List Ob)(v:D)(o:List Ob)(k:KV):Le (Γ hi v o k) (k v o):=by
 unfold Γ;refine xb fun _ q=>?_;subst q;refine aZ fun _ _ q=>?_;subst q;refine aZ fun _ _ q=>?_;subst q;refine jk fun _ q=>?_;subst q;refine DC fun _ q=>?_;subst q;refine aZ fun _ _ q=>?_;subst q;refine uv fun _ q=>?_;subst q;refine aZ fun _ _ q=>?_;subst q;refine aZ fun _ _ q=>?_;subst q;refine bT fun q=>?_;subst q;refine jk fun _ q=>?_;subst q;refine rG fun _ q=>?_;subst q;refine bT fun q=>?_;subst q;refine rH fun q=>?_;subst q
 refine Le.two (fun _=>?_) (fun _=>?_)
 ·refine DD fun q=>?_;subst q;refine DD fun q=>?_;subst q;exact Le.refl _
 ·refine xa fun _ _ q=>?_;subst q;refine xa fun _ _ q=>?_;subst q;exact Le.refl _
def Rd.XL {T:Type}:Rd (List T) (List T):=⟨fun x=>x,fun x k=>k x,fun x _ _ H=>H x rfl⟩
structure Tn where
 tn:LN
 (tf tm:LD)
 (aT aM aN:Int)
 no:LD
 ky:LN
 ip:LD
 nx:Int
 (fn ln en:Nat)
 (lm rd:Int)
 sn:Nat
 sd:Bool
 ty:LD
 bn:Nat
 bs:LD
 fb:Bool
 (fs ls:LD)
 eb:Bool
 (es sg:LD)
def Tn.bx (j:Nat)(c:Tn):Ob:= .box [.box j 0,.p (.str c.tn),.p (.slice 7 c.tf),.p (.slice 4 c.tm),.p (.int .i64 c.aT),.p (.int .i64 c.aM),.p (.int .i64 c.aN),.p (.slice 8 c.no),.p (.str c.ky),.p (.slice 6 c.ip),.p (.int .i64 c.nx),.arr (j+2) 0 c.fn 5,.arr (j+3) 0 c.ln 5,.arr (j+4) 0 c.en 4,.p (.int .i64 c.lm),.p (.int .i64 c.rd),.arr (j+5) 0 c.sn 18,.p (.bool c.sd)]
def Tn.rs (j:Nat)(c:Tn):List Ob:=[.box [.p (.slice 3 c.ty),.arr (j+1) 0 c.bn 1],.arr c.bs,.may c.fb c.fs,.arr c.ls,.may c.eb c.es,.arr c.sg]
def Tn.hpA (k:Nat)(c:Tn):List Ob:=c.bx (k+1)::c.rs (k+1)
def Tn.hpV (k:Nat)(c:Tn):List Ob:=c.bx (k+1)::[.box [.p (.slice 3 c.ty),.arr (k+2) 0 c.bn 1],.arr c.bs,.arr c.fs,.arr c.ls,.may c.eb c.es,.arr c.sg]
def B_ {β:Type}(k:Nat)(tl:Rd (List Ob) β):Rd (List Ob) (Tn×β):= .rm (.c (.Ob (.u (.Bo (k+1) 0) (.c (.P .S) (.c (.P (.L 7)) (.c (.P (.L 4)) (.c (.P (.I .i64)) (.c (.P (.I .i64)) (.c (.P (.I .i64)) (.c (.P (.L 8)) (.c (.P .S) (.c (.P (.L 6)) (.c (.P (.I .i64)) (.c (.Ar (k+3) 5) (.c (.Ar (k+4) 5) (.c (.Ar (k+5) 4) (.c (.P (.I .i64)) (.c (.P (.I .i64)) (.c (.Ar (k+6) 18) (.c (.P .B) .n))))))))))))))))))) (.c (.Ob (.c (.P (.L 3)) (.c (.Ar (k+2) 1) .n))) (.c .Oa (.c .Ow (.c .Oa (.c .Ow (.c .Oa tl))))))) (fun((tn,(tf,(tm,(aT,(aM,(aN,(no,(ky,(ip,(nx,(fn,(ln,(en,(lm,(rd,(sn,(sd,()))))))))))))))))),(ty,bn,()),bs,(fb,fs),ls,(eb,es),sg,ex)=>(⟨tn,tf,tm,aT,aM,aN,no,ky,ip,nx,fn,ln,en,lm,rd,sn,sd,ty,bn,bs,fb,fs,ls,eb,es,sg⟩,ex)) (fun p=>((p.1.tn,(p.1.tf,(p.1.tm,(p.1.aT,(p.1.aM,(p.1.aN,(p.1.no,(p.1.ky,(p.1.ip,(p.1.nx,(p.1.fn,(p.1.ln,(p.1.en,(p.1.lm,(p.1.rd,(p.1.sn,(p.1.sd,()))))))))))))))))),(p.1.ty,p.1.bn,()),p.1.bs,(p.1.fb,p.1.fs),p.1.ls,(p.1.eb,p.1.es),p.1.sg,p.2))
def ab4:Rd (List Ob) Tn:= .rm (B_ 0 .n) (fun p=>p.1) (fun c=>(c,()))
def AO (k:Nat)(o:List Ob)(kt:Tn->List Ob->R):R:=(B_ k .XL).d o fun p=>kt p.1 p.2
variable {kt:Tn->List Ob->R}
def ux {k:Nat}{o:List Ob}(h:∀c ex,o=c.hpA k++ex->Le (kt c ex) Z):Le (AO k o kt) Z:=(B_ k .XL).le _ _ _ fun a q=>h a.1 a.2 q
def Z8 (k:Nat)(o:List Ob)(kt:Tn->List Ob->R):R:=Rd.d (.c (.Ob (.u (.Bo (k+1) 0) (.c (.P .S) (.c (.P (.L 7)) (.c (.P (.L 4)) (.c (.P (.I .i64)) (.c (.P (.I .i64)) (.c (.P (.I .i64)) (.c (.P (.L 8)) (.c (.P .S) (.c (.P (.L 6)) (.c (.P (.I .i64)) (.c (.Ar (k+3) 5) (.c (.Ar (k+4) 5) (.c (.Ar (k+5) 4) (.c (.P (.I .i64)) (.c (.P (.I .i64)) (.c (.Ar (k+6) 18) (.c (.P .B) .n))))))))))))))))))) (.c (.Ob (.c (.P (.L 3)) (.c (.Ar (k+2) 1) .n))) (.c .Oa (.c .Oa (.c .Oa (.c .Ow (.c .Oa .XL))))))) o fun((tn,(tf,(tm,(aT,(aM,(aN,(no,(ky,(ip,(nx,(fn,(ln,(en,(lm,(rd,(sn,(sd,()))))))))))))))))),(ty,bn,()),bs,fs,ls,(eb,es),sg,ex)=>kt ⟨tn,tf,tm,aT,aM,aN,no,ky,ip,nx,fn,ln,en,lm,rd,sn,sd,ty,bn,bs,false,fs,ls,eb,es,sg⟩ ex
def Ϗ {k:Nat}{o:List Ob}(h:∀c ex,o=c.hpV k++ex->Le (kt c ex) Z):Le (Z8 k o kt) Z:=Rd.le (.c (.Ob (.u (.Bo (k+1) 0) (.c (.P .S) (.c (.P (.L 7)) (.c (.P (.L 4)) (.c (.P (.I .i64)) (.c (.P (.I .i64)) (.c (.P (.I .i64)) (.c (.P (.L 8)) (.c (.P .S) (.c (.P (.L 6)) (.c (.P (.I .i64)) (.c (.Ar (k+3) 5) (.c (.Ar (k+4) 5) (.c (.Ar (k+5) 4) (.c (.P (.I .i64)) (.c (.P (.I .i64)) (.c (.Ar (k+6) 18) (.c (.P .B) .n))))))))))))))))))) (.c (.Ob (.c (.P (.L 3)) (.c (.Ar (k+2) 1) .n))) (.c .Oa (.c .Oa (.c .Oa (.c .Ow (.c .Oa .XL))))))) _ _ _ fun((tn,(tf,(tm,(aT,(aM,(aN,(no,(ky,(ip,(nx,(fn,(ln,(en,(lm,(rd,(sn,(sd,()))))))))))))))))),(ty,bn,()),bs,fs,ls,(eb,es),sg,ex) q=>h ⟨tn,tf,tm,aT,aM,aN,no,ky,ip,nx,fn,ln,en,lm,rd,sn,sd,ty,bn,bs,false,fs,ls,eb,es,sg⟩ ex q
def ύ (kk:Nat)(hi o:List Ob)(kt:Tn->R):R:=AO kk (o.drop kk) fun c _=> @ite _ (o=hi.take kk++(c.hpA kk++hi.drop (kk+7))) (Classical.propDecidable _) (kt c) none
def ώ {kk:Nat}{o:List Ob}{kt:Tn->R}(h:∀c,o=hi.take kk++(c.hpA kk++hi.drop (kk+7))->Le (kt c) Z):Le (ύ kk hi o kt) Z:=ux fun c ex _=>by
 split
 ·rename_i e;exact h c e
 ·exact Le.no _
def dPs (x:Da)(k:Nat->R):R:=match x with| .int .i64 (.ofNat (e+1))=>k e|_=>none
def ϊ {k:Nat->R}(h:∀e:Nat,x= .int .i64 (Int.ofNat (e+1))->Le (k e) Z):Le (dPs x k) Z:=by
 unfold dPs;split
 ·exact h _ rfl
 ·exact Le.no _
def dNg (x:Da)(k:Nat->R):R:=match x with| .int .i64 (.negSucc e)=>k e|_=>none
def Ψ {k:Nat->R}(h:∀e:Nat,x= .int .i64 (Int.negSucc e)->Le (k e) Z):Le (dNg x k) Z:=by
 unfold dNg;split
 ·exact h _ rfl
 ·exact Le.no _
def D6:D->Bool| .box _ _=>true|_=>false
def aaR:Da->Bool| .int _ (.ofNat _)=>true|_=>false
def Sb:Da->Bool| .str _=>true|_=>false
def r_Nb:Rd Ob af:= .rm (.Ob (.ci<| .cs<| .ci<| .ci<| .cs<| .cl 1<| .cl 1<| .cl 1 .n)) (fun(Op,(Name,(Value_Kind,(Value_N,(Value_S,(Value_I,(Value_L,(Kids,()))))))))=>⟨Op,Name,Value_Kind,Value_N,Value_S,Value_I,Value_L,Kids⟩) (fun t=>(t.Op,(t.Name,(t.Value_Kind,(t.Value_N,(t.Value_S,(t.Value_I,(t.Value_L,(t.Kids,())))))))))
def dNb (o:Ob)(k:af->R):R:=r_Nb.d o k
def yH {o:Ob}{k:af->R}(h:∀t:af,o=t.b->Le (k t) Z):Le (dNb o k) Z:=r_Nb.le _ _ _ h
def dPt (x:Da)(k:Da->R):R:=match x with| .ptr y=>k y|_=>none
def ϋ {k:Da->R}(h:∀y,x= .ptr y->Le (k y) Z):Le (dPt x k) Z:=by
 cases x<;>first|exact Le.no _|exact h _ rfl
def Ŀ:D->Bool| .p _=>true|_=>false
def wC (g:Nat):D->Bool| .fn f _=>Nat.beq f g|_=>false
def isM (g:Nat):Ob->Bool| .box (d::_)=>wC g d|_=>false
def isE (i:Nat):D->Bool| .el j _ _=>Nat.beq j i|_=>false
def jB (g:Nat)(ex:List Ob):Bool:=isM g (ex.getD 2 .dead)
def dU (v:D)(o:List Ob)(k:Tn->R):R:=ba v fun r=>aj r<|AO 0 o fun c ex=>aj ex<|k c
def aat {v:D}{o:List Ob}{k:Tn->R}(h:∀c,v= .tup []->o=c.hpA 0->Le (k c) Z):Le (dU v o k) Z:=by
 unfold dU;refine xb fun _ q=>?_;subst q
 refine bT fun q=>?_;subst q
 refine ux fun _ _ q=>?_;subst q
 refine bT fun q=>?_;subst q
 exact h _ rfl (mξ _)
def dW (v:D)(o:List Ob)(k:ah->Tn->R):R:=dP v fun x=>ag x fun a=>AO 0 o fun c ex=>aj ex<|k a c
def aau {v:D}{o:List Ob}{k:ah->Tn->R}(h:∀a c,v= .p a.e->o=c.hpA 0->Le (k a c) Z):Le (dW v o k) Z:=by
 unfold dW;refine jk fun _ q=>?_;subst q
 refine bV fun _ q=>?_;subst q
 refine ux fun _ _ q=>?_;subst q
 refine bT fun q=>?_;subst q
 exact h _ _ rfl (mξ _)
def Tr (v:D)(ex:List Ob)(k:af->R):R:=dP v fun x=>Χ 108 x fun l=>aJ l fun y l=>aj l<|dPt y fun z=>bf z fun n=>aj ex<|k n
variable {ex:List Ob}
def ϒ {v:D}{k:af->R}(h:∀n:af,v= .p (.fn 108 [.ptr n.e])->ex=[]->Le (k n) Z):Le (Tr v ex k) Z:=by
 unfold Tr;refine jk fun _ q=>?_;subst q
 refine OL fun _ q=>?_;subst q
 refine aZ fun _ _ q=>?_;subst q
 refine bT fun q=>?_;subst q
 refine ϋ fun _ q=>?_;subst q
 refine dE fun _ q=>?_;subst q
 refine bT fun q=>?_;subst q
 exact h _ rfl rfl
def Ts (v:D)(ex:List Ob)(k:R):R:=ib (.fn 109 [.box 7 0]) v<|aJ ex fun a ex=>wK a fun l=>aJ l fun d l=>wu 0 0 d<|aj l<|aj ex<|k
def ϓ {v:D}{k:R}(h:v= .fn 109 [.box 7 0]->ex=[.box [.box 0 0]]->Le k Z):Le (Ts v ex k) Z:=by
 unfold Ts;refine gu fun q=>?_;cases q
 refine aZ fun _ _ q=>?_;subst q
 refine gQ fun _ q=>?_;subst q
 refine aZ fun _ _ q=>?_;subst q
 refine k7 fun q=>?_;subst q
 refine bT fun q=>?_;subst q
 refine bT fun q=>?_;subst q
 exact h rfl rfl
def Tt (v:D)(ex:List Ob)(k:Int->R):R:=ib (.fn 110 [.box 7 0,.box 8 0]) v<|aJ ex fun a ex=>wK a fun l=>aJ l fun d l=>wu 0 0 d<|aj l<|aJ ex fun a ex=>wK a fun l=>aJ l fun d l=>dP d fun x=>bg .i64 x fun i=>aj l<|aj ex<|k i
def ϔ {v:D}{k:Int->R}(h:∀i,v= .fn 110 [.box 7 0,.box 8 0]->ex=[.box [.box 0 0],.box [.p (.int .i64 i)]]->Le (k i) Z):Le (Tt v ex k) Z:=by
 unfold Tt;refine gu fun q=>?_;cases q
 refine aZ fun _ _ q=>?_;subst q
 refine gQ fun _ q=>?_;subst q
 refine aZ fun _ _ q=>?_;subst q
 refine k7 fun q=>?_;subst q
 refine bT fun q=>?_;subst q
 refine aZ fun _ _ q=>?_;subst q
 refine gQ fun _ q=>?_;subst q
 refine aZ fun _ _ q=>?_;subst q
 refine jk fun _ q=>?_;subst q
 refine c5 fun _ q=>?_;subst q
 refine bT fun q=>?_;subst q
 refine bT fun q=>?_;subst q
 exact h _ rfl rfl
def LU (v:D)(ex:List Ob)(k:af->Int->R):R:=ib (.fn 162 [.box 7 0,.box 8 0,.box 9 0]) v<|aJ ex fun a ex=>wK a fun l=>aJ l fun d l=>wu 0 0 d<|aj l<|aJ ex fun a ex=>dNb a fun n=>aJ ex fun a ex=>wK a fun l=>aJ l fun d l=>dP d fun x=>bg .i64 x fun i=>aj l<|aj ex<|k n i
def Wj {v:D}{k:af->Int->R}(h:∀n i,v= .fn 162 [.box 7 0,.box 8 0,.box 9 0]->ex=[.box [.box 0 0],af.b n,.box [.p (.int .i64 i)]]->Le (k n i) Z):Le (LU v ex k) Z:=by
 unfold LU;refine gu fun q=>?_;cases q
 refine aZ fun _ _ q=>?_;subst q
 refine gQ fun _ q=>?_;subst q
 refine aZ fun _ _ q=>?_;subst q
 refine k7 fun q=>?_;subst q
 refine bT fun q=>?_;subst q
 refine aZ fun _ _ q=>?_;subst q
 refine yH fun _ q=>?_;subst q
 refine aZ fun _ _ q=>?_;subst q
 refine gQ fun _ q=>?_;subst q
 refine aZ fun _ _ q=>?_;subst q
 refine jk fun _ q=>?_;subst q
 refine c5 fun _ q=>?_;subst q
 refine bT fun q=>?_;subst q
 refine bT fun q=>?_;subst q
 exact h _ _ rfl rfl
def q7 (m:Nat)(v:D)(ex:List Ob)(k:af->af->R):R:=ib (.fn 157 [.box 7 0,.box 8 0,.box 9 0]) v<|aJ ex fun a ex=>wK a fun l=>aJ l fun d l=>wu 0 0 d<|aj l<|aJ ex fun a ex=>dNb a fun n=>aJ ex fun a ex=>wK a fun l=>aJ l fun d l=>ib (.fn m [.box 10 0]) d<|aj l<|aJ ex fun a ex=>dNb a fun n0=>aj ex<|k n n0
variable {m:Nat}
def LV {v:D}{k:af->af->R}(h:∀n n0,v= .fn 157 [.box 7 0,.box 8 0,.box 9 0]->ex=[.box [.box 0 0],af.b n,.box [.fn m [.box 10 0]],af.b n0]->Le (k n n0) Z):Le (q7 m v ex k) Z:=by
 unfold q7;refine gu fun q=>?_;cases q
 refine aZ fun _ _ q=>?_;subst q
 refine gQ fun _ q=>?_;subst q
 refine aZ fun _ _ q=>?_;subst q
 refine k7 fun q=>?_;subst q
 refine bT fun q=>?_;subst q
 refine aZ fun _ _ q=>?_;subst q
 refine yH fun _ q=>?_;subst q
 refine aZ fun _ _ q=>?_;subst q
 refine gQ fun _ q=>?_;subst q
 refine aZ fun _ _ q=>?_;subst q
 refine gu fun q=>?_;cases q
 refine bT fun q=>?_;subst q
 refine aZ fun _ _ q=>?_;subst q
 refine yH fun _ q=>?_;subst q
 refine bT fun q=>?_;subst q
 exact h _ _ rfl rfl
def F7 (m:Nat)(v:D)(ex:List Ob)(k:af->af->R):R:=ib (.fn 157 [.box 8 0,.box 9 0,.box 10 0]) v<|aJ ex fun a ex=>dNb a fun n0=>aJ ex fun a ex=>wK a fun l=>aJ l fun d l=>wu 0 0 d<|aj l<|aJ ex fun a ex=>dNb a fun n=>aJ ex fun a ex=>wK a fun l=>aJ l fun d l=>ib (.fn m [.box 7 0]) d<|aj l<|aj ex<|k n n0
def LW {v:D}{k:af->af->R}(h:∀n n0,v= .fn 157 [.box 8 0,.box 9 0,.box 10 0]->ex=[af.b n0,.box [.box 0 0],af.b n,.box [.fn m [.box 7 0]]]->Le (k n n0) Z):Le (F7 m v ex k) Z:=by
 unfold F7;refine gu fun q=>?_;cases q
 refine aZ fun _ _ q=>?_;subst q
 refine yH fun _ q=>?_;subst q
 refine aZ fun _ _ q=>?_;subst q
 refine gQ fun _ q=>?_;subst q
 refine aZ fun _ _ q=>?_;subst q
 refine k7 fun q=>?_;subst q
 refine bT fun q=>?_;subst q
 refine aZ fun _ _ q=>?_;subst q
 refine yH fun _ q=>?_;subst q
 refine aZ fun _ _ q=>?_;subst q
 refine gQ fun _ q=>?_;subst q
 refine aZ fun _ _ q=>?_;subst q
 refine gu fun q=>?_;cases q
 refine bT fun q=>?_;subst q
 refine bT fun q=>?_;subst q
 exact h _ _ rfl rfl
def dQ (v:D)(o:List Ob)(k:LD->Tn->R):R:=AN 1 5 v fun n=>Rd.d (.c (.Ob (.u (.Bo 2 0) (.c (.P .S) (.c (.P (.L 7)) (.c (.P (.L 4)) (.c (.P (.I .i64)) (.c (.P (.I .i64)) (.c (.P (.I .i64)) (.c (.P (.L 8)) (.c (.P .S) (.c (.P (.L 6)) (.c (.P (.I .i64)) (.c (.Ar 4 5) (.c (.Ar 5 5) (.c (.Ar 6 4) (.c (.P (.I .i64)) (.c (.P (.I .i64)) (.c (.Ar 7 18) (.c (.P .B) .n))))))))))))))))))) (.c .Oa (.c (.Ob (.c (.P (.L 3)) (.c (.Ar 3 1) .n))) (.c .Oa (.c .Ow (.c .Oa (.c .Ow (.c .Oa .n)))))))) o fun((tn,(tf,(tm,(aT,(aM,(aN,(no,(ky,(ip,(nx,(fn,(ln,(en,(lm,(rd,(sn,(sd,()))))))))))))))))),l,(ty,bn,()),bs,(fb,fs),ls,(eb,es),sg,())=>iL (Nat.beq n l.length) (k l ⟨tn,tf,tm,aT,aM,aN,no,ky,ip,nx,fn,ln,en,lm,rd,sn,sd,ty,bn,bs,fb,fs,ls,eb,es,sg⟩) none
def aas {v:D}{o:List Ob}{k:LD->Tn->R}(h:∀l c,v= .arr 1 0 (List.length l) 5->o=Tn.bx 2 c:: .arr l::Tn.rs 2 c->Le (k l c) Z):Le (dQ v o k) Z:=
 rE fun n q=>by
  subst q;refine Rd.le _ _ _ _ fun a q=>?_
  obtain⟨⟨tn,⟨tf,⟨tm,⟨aT,⟨aM,⟨aN,⟨no,⟨ky,⟨ip,⟨nx,⟨fn,⟨ln,⟨en,⟨lm,⟨rd,⟨sn,⟨sd,_⟩⟩⟩⟩⟩⟩⟩⟩⟩⟩⟩⟩⟩⟩⟩⟩⟩,l,⟨ty,bn,u2⟩,bs,⟨fb,fs⟩,ls,⟨eb,es⟩,sg,u3⟩:=a;exact Le.grd fun e=>h l ⟨tn,tf,tm,aT,aM,aN,no,ky,ip,nx,fn,ln,en,lm,rd,sn,sd,ty,bn,bs,fb,fs,ls,eb,es,sg⟩ (by rw[lκ e]) q
def qA (kk:Nat)(hi:List Ob)(v:D)(o:List Ob)(kt:ah->Tn->R):R:=dP v fun x=>ag x fun a=>ύ kk hi o fun c=>kt a c
variable {kt:ah->Tn->R}
def LT {kk:Nat}{v:D}{o:List Ob}(h:∀a c,v= .p a.e->o=hi.take kk++(c.hpA kk++hi.drop (kk+7))->Le (kt a c) Z):Le (qA kk hi v o kt) Z:=
 jk fun x q=>by subst q;exact bV fun a q=>by subst q;exact ώ fun c q=>h a c rfl q
def fM:Ob->Nat
 | .box [.fn m _]=>m
 |_=>0
def cVn (hi:List Ob)(c:Tn):List Ob:=[hi.getD 0 .dead,hi.getD 1 .dead,.box [.fn (fM (hi.getD 2 .dead)) [.box 4 0]],c.bx 5,hi.getD 10 .dead]++c.rs 5
def Rd.X1 {T:Type}:Rd T T:=⟨fun x=>x,fun x k=>k x,fun x _ _ H=>H x rfl⟩
def dVn (hi:List Ob)(v:D)(o:List Ob)(kt:ah->Tn->R):R:=dP v fun x=>ag x fun a=>Rd.d (.c (.Ob (.u (.Bo 5 0) (.c (.P .S) (.c (.P (.L 7)) (.c (.P (.L 4)) (.c (.P (.I .i64)) (.c (.P (.I .i64)) (.c (.P (.I .i64)) (.c (.P (.L 8)) (.c (.P .S) (.c (.P (.L 6)) (.c (.P (.I .i64)) (.c (.Ar 7 5) (.c (.Ar 8 5) (.c (.Ar 9 4) (.c (.P (.I .i64)) (.c (.P (.I .i64)) (.c (.Ar 10 18) (.c (.P .B) .n))))))))))))))))))) (.c .X1 (.c (.Ob (.c (.P (.L 3)) (.c (.Ar 6 1) .n))) (.c .Oa (.c .Ow (.c .Oa (.c .Ow (.c .Oa .n)))))))) (o.drop 3) fun((tn,(tf,(tm,(aT,(aM,(aN,(no,(ky,(ip,(nx,(fn,(ln,(en,(lm,(rd,(sn,(sd,()))))))))))))))))),_,(ty,bn,()),bs,(fb,fs),ls,(eb,es),sg,())=> @ite _ (o=cVn hi ⟨tn,tf,tm,aT,aM,aN,no,ky,ip,nx,fn,ln,en,lm,rd,sn,sd,ty,bn,bs,fb,fs,ls,eb,es,sg⟩) (Classical.propDecidable _) (kt a ⟨tn,tf,tm,aT,aM,aN,no,ky,ip,nx,fn,ln,en,lm,rd,sn,sd,ty,bn,bs,fb,fs,ls,eb,es,sg⟩) none
def ϐ {v:D}{o:List Ob}(h:∀a c,v= .p a.e->o=cVn hi c->Le (kt a c) Z):Le (dVn hi v o kt) Z:=
 jk fun x q=>by
  subst q;exact bV fun a q=>by
   subst q;refine Rd.le _ _ _ _ fun a' q=>?_
   obtain⟨⟨tn,⟨tf,⟨tm,⟨aT,⟨aM,⟨aN,⟨no,⟨ky,⟨ip,⟨nx,⟨fn,⟨ln,⟨en,⟨lm,⟨rd,⟨sn,⟨sd,_⟩⟩⟩⟩⟩⟩⟩⟩⟩⟩⟩⟩⟩⟩⟩⟩⟩,uu,⟨ty,bn,u2⟩,bs,⟨fb,fs⟩,ls,⟨eb,es⟩,sg,u3⟩:=a';dsimp only;split
   ·rename_i e;exact h a _ rfl e
   ·exact Le.no _
def Β (hi:List Ob)(v:D)(o:List Ob)(k:KV):R:=ba v fun r=>aJ r fun d r=>aJ r fun d1 r=>dP d1 fun x1=>gv x1 fun a1=>aJ r fun d2 r=>dP d2 fun x2=>aj r<|iL (D6 d) (wu 0 0 d<|HX .i64 0 x2<|ON o fun c=>k (.tup [.box 0 0,.p a1.e,.p (.int .i64 0)]) c.hp)<|dP d fun x0=>dNp x0<|aj o<|iL (aaR x2) (dPs x2 fun e=>k (.tup [.p .nilptr,.p a1.e,.p (.int .i64 (Int.ofNat (e+1)))]) []) (dNg x2 fun e=>k (.tup [.p .nilptr,.p a1.e,.p (.int .i64 (Int.negSucc e))]) [])
def ZL (hi:List Ob)(v:D)(o:List Ob)(k:KV):Le (Β hi v o k) (k v o):=by
 unfold Β;refine xb fun _ q=>?_;subst q
 refine aZ fun _ _ q=>?_;subst q
 refine aZ fun _ _ q=>?_;subst q
 refine jk fun _ q=>?_;subst q
 refine yI fun _ q=>?_;subst q
 refine aZ fun _ _ q=>?_;subst q
 refine jk fun _ q=>?_;subst q
 refine bT fun q=>?_;subst q
 refine Le.two (fun _=>?_) (fun _=>?_)
 ·refine k7 fun q=>?_;subst q
  refine HY fun q=>?_;subst q
  refine Wn fun _ q=>?_;subst q
  exact Le.refl _
 ·refine jk fun _ q=>?_;subst q
  refine Wf fun q=>?_;subst q
  refine bT fun q=>?_;subst q
  refine Le.two (fun _=>?_) (fun _=>?_)
  ·refine ϊ fun _ q=>?_;subst q
   exact Le.refl _
  ·refine Ψ fun _ q=>?_;subst q
   exact Le.refl _
def Dz (hi:List Ob)(v:D)(o:List Ob)(k:KV):R:=dU v o fun c=>k (.tup []) (c.hpA 0)
def m4 (hi:List Ob)(v:D)(o:List Ob)(k:KV):Le (Dz hi v o k) (k v o):=by
 unfold Dz;refine aat fun _ q q2=>?_;subst q q2
 exact Le.refl _
def VS (hi:List Ob)(v:D)(o:List Ob)(k:KV):R:=dW v o fun a c=>k (.p a.e) (c.hpA 0)
def DA (hi:List Ob)(v:D)(o:List Ob)(k:KV):Le (VS hi v o k) (k v o):=by
 unfold VS;refine aau fun _ _ q q2=>?_;subst q q2
 exact Le.refl _
def Ν (hi:List Ob)(v:D)(o:List Ob)(k:KV):R:=dQ v o fun l c=>k (.arr 1 0 l.length 5) (c.bx 2:: .arr l::c.rs 2)
def ZX (hi:List Ob)(v:D)(o:List Ob)(k:KV):Le (Ν hi v o k) (k v o):=by
 unfold Ν;refine aas fun _ _ q q2=>?_;subst q q2
 exact Le.refl _
def Ο (hi:List Ob)(v:D)(o:List Ob)(k:KV):R:=Z8 0 o fun c ex=>aj ex<|iL (isE 3 v) (LR 3 0 v fun n=>k (.el 3 n 0) (c.hpV 0)) (LR 4 0 v fun n=>k (.el 4 n 0) (c.hpV 0))
def ZZ (hi:List Ob)(v:D)(o:List Ob)(k:KV):Le (Ο hi v o k) (k v o):=by
 unfold Ο;refine Ϗ fun _ _ q=>?_;subst q
 refine bT fun q=>?_;subst q
 refine Le.two (fun _=>?_) (fun _=>?_)
 ·refine Wb fun _ q=>?_;subst q
  exact Le.refl _
 ·refine Wb fun _ q=>?_;subst q
  exact Le.refl _
def ZM (hi:List Ob)(v:D)(o:List Ob)(k:KV):R:=gt 0 5 v fun lo len=>iL (Nat.beq lo 0) (aJ o fun x t=>f6 x fun es=>aj t<|k (.arr 0 0 len 5) [.arr es]) none
def OE (hi:List Ob)(v:D)(o:List Ob)(k:KV):Le (ZM hi v o k) (k v o):=by
 unfold ZM;refine yE fun _ _ q=>?_;subst q
 refine Le.grd fun q=>?_;rw[lκ q]
 refine aZ fun _ _ q=>?_;subst q
 refine pq fun _ q=>?_;subst q
 refine bT fun q=>?_;subst q
 exact Le.refl _
def ZK (hi:List Ob)(v:D)(o:List Ob)(k:KV):R:=gt 0 1 v fun lo len=>iL (Nat.beq lo 0) (aJ o fun x t=>f6 x fun es=>aj t<|k (.arr 0 0 len 1) [.arr es]) none
def OD (hi:List Ob)(v:D)(o:List Ob)(k:KV):Le (ZK hi v o k) (k v o):=by
 unfold ZK;refine yE fun _ _ q=>?_;subst q
 refine Le.grd fun q=>?_;rw[lκ q]
 refine aZ fun _ _ q=>?_;subst q
 refine pq fun _ q=>?_;subst q
 refine bT fun q=>?_;subst q
 exact Le.refl _
def Ξ (hi:List Ob)(v:D)(o:List Ob)(k:KV):R:=V9 v fun l=>aJ l fun d l=>dP d fun x=>bg .i64 x fun kd=>aJ l fun d l=>dP d fun x=>bg .i64 x fun n=>aJ l fun d l=>dP d fun x=>ja x fun s=>aJ l fun d l=>AN 0 1 d fun a=>aJ l fun d l=>AN 1 1 d fun b=>aj l<|aJ o fun x o=>f6 x fun is=>aJ o fun x o=>f6 x fun ls=>aj o<|k (.agg [.p (.int .i64 kd),.p (.int .i64 n),.p (.str s),.arr 0 0 a 1,.arr 1 0 b 1]) [.arr is,.arr ls]
def ZY (hi:List Ob)(v:D)(o:List Ob)(k:KV):Le (Ξ hi v o k) (k v o):=by
 unfold Ξ;refine OJ fun _ q=>?_;subst q
 refine aZ fun _ _ q=>?_;subst q
 refine jk fun _ q=>?_;subst q
 refine c5 fun _ q=>?_;subst q
 refine aZ fun _ _ q=>?_;subst q
 refine jk fun _ q=>?_;subst q
 refine c5 fun _ q=>?_;subst q
 refine aZ fun _ _ q=>?_;subst q
 refine jk fun _ q=>?_;subst q
 refine jw fun _ q=>?_;subst q
 refine aZ fun _ _ q=>?_;subst q
 refine rE fun _ q=>?_;subst q
 refine aZ fun _ _ q=>?_;subst q
 refine rE fun _ q=>?_;subst q
 refine bT fun q=>?_;subst q
 refine aZ fun _ _ q=>?_;subst q
 refine pq fun _ q=>?_;subst q
 refine aZ fun _ _ q=>?_;subst q
 refine pq fun _ q=>?_;subst q
 refine bT fun q=>?_;subst q
 exact Le.refl _
def Ε (hi:List Ob)(v:D)(o:List Ob)(k:KV):R:=qA 1 hi v o fun w c=>k (.p w.e) (hi.take 1++(c.hpA 1++hi.drop 8))
def ZP (hi:List Ob)(v:D)(o:List Ob)(k:KV):Le (Ε hi v o k) (k v o):=by
 unfold Ε;refine LT fun _ _ q q2=>?_;subst q q2
 exact Le.refl _
def Ζ (hi:List Ob)(v:D)(o:List Ob)(k:KV):R:=qA 2 hi v o fun w c=>k (.p w.e) (hi.take 2++(c.hpA 2++hi.drop 9))
def ZQ (hi:List Ob)(v:D)(o:List Ob)(k:KV):Le (Ζ hi v o k) (k v o):=by
 unfold Ζ;refine LT fun _ _ q q2=>?_;subst q q2
 exact Le.refl _
def Η (hi:List Ob)(v:D)(o:List Ob)(k:KV):R:=qA 3 hi v o fun w c=>k (.p w.e) (hi.take 3++(c.hpA 3++hi.drop 10))
def ZR (hi:List Ob)(v:D)(o:List Ob)(k:KV):Le (Η hi v o k) (k v o):=by
 unfold Η;refine LT fun _ _ q q2=>?_;subst q q2
 exact Le.refl _
def Θ (hi:List Ob)(v:D)(o:List Ob)(k:KV):R:=dVn hi v o fun w c=>k (.p w.e) (cVn hi c)
def ZS (hi:List Ob)(v:D)(o:List Ob)(k:KV):Le (Θ hi v o k) (k v o):=by
 unfold Θ;refine ϐ fun _ _ q q2=>?_;subst q q2
 exact Le.refl _
def Κ (hi:List Ob)(v:D)(o:List Ob)(k:KV):R:=AO 0 o fun c ex=>iL (Ŀ v) (Tr v ex fun n=>k (.p (.fn 108 [.ptr n.e])) (c.hpA 0))<|iL (wC 109 v) (Ts v ex<|k (.fn 109 [.box 7 0]) (c.hpA 0++[.box [.box 0 0]]))<|iL (wC 110 v) (Tt v ex fun i=>k (.fn 110 [.box 7 0,.box 8 0]) (c.hpA 0++[.box [.box 0 0],.box [.p (.int .i64 i)]]))<|iL (wC 162 v) (LU v ex fun n i=>k (.fn 162 [.box 7 0,.box 8 0,.box 9 0]) (c.hpA 0++[.box [.box 0 0],n.b,.box [.p (.int .i64 i)]]))<|iL (jB 112 ex) (q7 112 v ex fun n n0=>k (.fn 157 [.box 7 0,.box 8 0,.box 9 0]) (c.hpA 0++[.box [.box 0 0],n.b,.box [.fn 112 [.box 10 0]],n0.b]))<|iL (jB 115 ex) (q7 115 v ex fun n n0=>k (.fn 157 [.box 7 0,.box 8 0,.box 9 0]) (c.hpA 0++[.box [.box 0 0],n.b,.box [.fn 115 [.box 10 0]],n0.b]))<|q7 117 v ex fun n n0=>k (.fn 157 [.box 7 0,.box 8 0,.box 9 0]) (c.hpA 0++[.box [.box 0 0],n.b,.box [.fn 117 [.box 10 0]],n0.b])
def ZU (hi:List Ob)(v:D)(o:List Ob)(k:KV):Le (Κ hi v o k) (k v o):=by
 unfold Κ;refine ux fun _ _ q=>?_;subst q
 refine Le.two (fun _=>?_) (fun _=>?_)
 ·refine ϒ fun _ q q2=>?_;subst q q2
  exact Le.refl _
 ·refine Le.two (fun _=>?_) (fun _=>?_)
  ·refine ϓ fun q q2=>?_;subst q q2
   exact Le.refl _
  ·refine Le.two (fun _=>?_) (fun _=>?_)
   ·refine ϔ fun _ q q2=>?_;subst q q2
    exact Le.refl _
   ·refine Le.two (fun _=>?_) (fun _=>?_)
    ·refine Wj fun _ _ q q2=>?_;subst q q2
     exact Le.refl _
    ·refine Le.two (fun _=>?_) (fun _=>?_)
     ·refine LV fun _ _ q q2=>?_;subst q q2
      exact Le.refl _
     ·refine Le.two (fun _=>?_) (fun _=>?_)
      ·refine LV fun _ _ q q2=>?_;subst q q2
       exact Le.refl _
      ·refine LV fun _ _ q q2=>?_;subst q q2
       exact Le.refl _
def Μ (hi:List Ob)(v:D)(o:List Ob)(k:KV):R:=AO 0 o fun c ex=>iL (jB 112 (ex.drop 1)) (F7 112 v ex fun n n0=>k (.fn 157 [.box 8 0,.box 9 0,.box 10 0]) (c.hpA 0++[n0.b,.box [.box 0 0],n.b,.box [.fn 112 [.box 7 0]]]))<|iL (jB 115 (ex.drop 1)) (F7 115 v ex fun n n0=>k (.fn 157 [.box 8 0,.box 9 0,.box 10 0]) (c.hpA 0++[n0.b,.box [.box 0 0],n.b,.box [.fn 115 [.box 7 0]]]))<|F7 117 v ex fun n n0=>k (.fn 157 [.box 8 0,.box 9 0,.box 10 0]) (c.hpA 0++[n0.b,.box [.box 0 0],n.b,.box [.fn 117 [.box 7 0]]])
def ZW (hi:List Ob)(v:D)(o:List Ob)(k:KV):Le (Μ hi v o k) (k v o):=by
 unfold Μ;refine ux fun _ _ q=>?_;subst q
 refine Le.two (fun _=>?_) (fun _=>?_)
 ·refine LW fun _ _ q q2=>?_;subst q q2
  exact Le.refl _
 ·refine Le.two (fun _=>?_) (fun _=>?_)
  ·refine LW fun _ _ q q2=>?_;subst q q2
   exact Le.refl _
  ·refine LW fun _ _ q q2=>?_;subst q q2
   exact Le.refl _
def Λ (hi:List Ob)(v:D)(o:List Ob)(k:KV):R:=AO 0 o fun c ex=>LU v ex fun n i=>k (.fn 162 [.box 7 0,.box 8 0,.box 9 0]) (c.hpA 0++[.box [.box 0 0],n.b,.box [.p (.int .i64 i)]])
def ZV (hi:List Ob)(v:D)(o:List Ob)(k:KV):Le (Λ hi v o k) (k v o):=by
 unfold Λ;refine ux fun _ _ q=>?_;subst q
 refine Wj fun _ _ q q2=>?_;subst q q2
 exact Le.refl _
def aE {b:Bool}{x y:R}(h:Le x Z)(g:Le y Z):Le (bif b then x else y) Z:=by cases b<;>assumption
def Rz {α:Type}(r:Rd D α)(hi:List Ob)(v:D)(o:List Ob)(k:KV):R:=r.d v fun a=>Mw hi o fun o=>k (r.e a) o
variable {α:Type}
def iZ {r:Rd D α}(hi:List Ob)(v:D)(o:List Ob)(k:KV):Le (Rz r hi v o k) (k v o):=r.le v _ _ fun a q=>by subst q;exact Cr hi o (Le.refl _)
def ı {α:Type}(r:Rd D α)(hi:List Ob)(v:D)(o:List Ob)(k:KV):R:=r.d v fun a=>aW hi o<|k (r.e a) hi
def qz {r:Rd D α}(hi:List Ob)(v:D)(o:List Ob)(k:KV):Le (ı r hi v o k) (k v o):=r.le v _ _ fun a q=>by subst q;exact rH fun q=>by subst q;exact Le.refl _
def caE {α β:Type}(r:Rd D α)(s:Rd (List Ob) β)(hi:List Ob)(v:D)(o:List Ob)(k:KV):R:=r.d v fun a=>s.d o fun c=>k (r.e a) (s.e c)
def LJ {β:Type}{r:Rd D α}{s:Rd (List Ob) β}(hi:List Ob)(v:D)(o:List Ob)(k:KV):Le (caE r s hi v o k) (k v o):=r.le v _ _ fun a q=>by subst q;exact s.le o _ _ fun c q=>by subst q;exact Le.refl _
def VQ (f:Nat)(hi:List Ob)(v:D)(o:List Ob)(k:KV):R:=bif Nat.beq f 147 then Ι hi v o k else bif Nat.beq f 187 then Δ hi v o k else bif Nat.beq f 13 then Β hi v o k else bif Nat.beq f 42 then Γ hi v o k else bif Nat.beq f 48 then Ο hi v o k else bif Nat.beq f 77 then Κ hi v o k else bif Nat.beq f 111 then Μ hi v o k else bif Nat.beq f 114 then Λ hi v o k else bif Nat.beq f 18 then ZM hi v o k else bif Nat.beq f 44 then ZM hi v o k else bif Nat.beq f 45 then ZK hi v o k else bif Nat.beq f 46 then ZK hi v o k else bif Nat.beq f 164 then Ξ hi v o k else bif Nat.beq f 19 then Dz hi v o k else bif Nat.beq f 53 then Dz hi v o k else bif Nat.beq f 21 then Dz hi v o k else bif Nat.beq f 51 then Dz hi v o k else bif Nat.beq f 50 then Dz hi v o k else bif Nat.beq f 54 then Dz hi v o k else bif Nat.beq f 20 then Dz hi v o k else bif Nat.beq f 158 then VS hi v o k else bif Nat.beq f 49 then VS hi v o k else bif Nat.beq f 47 then VS hi v o k else bif Nat.beq f 52 then Ν hi v o k else bif Nat.beq f 109 then Ε hi v o k else bif Nat.beq f 110 then Ζ hi v o k else bif Nat.beq f 162 then Η hi v o k else bif Nat.beq f 157 then Θ hi v o k else bif gK f [5,6,8,9,11,12,15,16,22,23,26,27,38,39,55,56,57,58,65,68,69,70,73,74,75,86,87,97,98,99,100,101,122,140,144,145,146,148,163]then Rz (.P .B) hi v o k else bif gK f [7]then Rz (.Tu (.c (.P (.L 18)) (.c (.P (.I .i64)) .n))) hi v o k else bif gK f [14]then Rz (.Tu (.c (.P r_api_Place) (.c (.P .B) .n))) hi v o k else bif gK f [17]then ı (.P (.L 2)) hi v o k else bif gK f [28,29,30,31,34,36,37,40,41,66,67,123,137,138,139,141,142,143,151,152,183,184,185]then ı (.P .B) hi v o k else bif gK f [32]then Rz (.Tu (.c (.P r_types_body) (.c (.P (.I .i64)) (.c (.P (.I .i64)) .n)))) hi v o k else bif gK f [33,35,76,79,96]then ı (.P (.I .i64)) hi v o k else bif gK f [43]then Rz (.P (.L 2)) hi v o k else bif gK f [71,103,106,107,150,156]then caE (.Tu .n) r_Ckr hi v o k else bif gK f [72,104,105,154,155]then caE (.P (.I .i64)) r_Ckr hi v o k else bif gK f [78]then ı (.Tu (.c (.P (.I .i64)) (.c (.P .B) (.c (.P .B) .n)))) hi v o k else bif gK f [80]then Rz (.Tu (.c (.P r_api_Effect) (.c (.P (.I .i64)) .n))) hi v o k else bif gK f [83,85,102,136,165,181]then Rz (.P (.I .i64)) hi v o k else bif gK f [108,159,161]then Rz (.P r_api_Value) hi v o k else bif gK f [112,115,117]then ı (.Tu (.c (.P r_api_Value) (.c (.P (.I .i64)) .n))) hi v o k else bif gK f [113,116,118]then Rz (.Tu (.c (.P r_api_Value) (.c (.P (.I .i64)) .n))) hi v o k else bif gK f [119]then ı (.Tu (.c (.P (.I .i64)) (.c (.P .B) .n))) hi v o k else bif gK f [149]then Rz (.Tu (.c (.P r_api_Method) (.c (.P .B) .n))) hi v o k else bif gK f [153]then caE (.P r_types_variable) r_Ckr hi v o k else bif gK f [160]then Rz (.Tu (.c (.P (.I .i64)) (.c (.P (.I .i64)) .n))) hi v o k else bif gK f [166]then Rz (.P .S) hi v o k else bif gK f [186]then ı (.Tu (.c (.P r_types_variable) (.c (.P .B) .n))) hi v o k else k v o
def XP (z:D)(x:Da)(k:Da->R):R:=match z with| .p (.int i _)=>bg i x fun n=>k (.int i n)| .p (.bool _)=>aB x fun b=>k (.bool b)| .p (.agg cs)=>bif Nat.beq cs.length 3 then aV x fun t=>k t.e else k x|_=>k x
def elI (z:Nat)(x:Da)(k:Da->R):R:=bif Nat.beq z 8 then bf x fun t=>k t.e else bif Nat.beq z 3 then bq x fun t=>k t.e else bif Nat.beq z 4 then bM x fun t=>k t.e else bif Nat.beq z 7 then cq x fun t=>k t.e else bif Nat.beq z 2 then cR x fun t=>k t.e else bif Nat.beq z 5 then ag x fun t=>k t.e else bif Nat.beq z 6 then bQ x fun t=>k t.e else bif Nat.beq z 18 then aY x fun t=>k t.e else bif Nat.beq z 2001 then bg .i64 x fun i=>k (.int .i64 i)else bif Nat.beq z 1 then bg .i64 x fun i=>k (.int .i64 i)else bif Nat.beq z 0 then bg .i64 x fun i=>k (.int .i64 i)else k x
def elS (z:Nat)(x:Da)(k:Da->R):R:=bif Nat.beq z 8 then bf x fun t=>k t.e else bif Nat.beq z 3 then bq x fun t=>k t.e else bif Nat.beq z 4 then bM x fun t=>k t.e else bif Nat.beq z 7 then cq x fun t=>k t.e else bif Nat.beq z 2 then cR x fun t=>k t.e else bif Nat.beq z 5 then ag x fun t=>k t.e else bif Nat.beq z 6 then bQ x fun t=>k t.e else bif Nat.beq z 18 then aY x fun t=>k t.e else bif Nat.beq z 2001 then ja x fun s=>k (.str s)else bif Nat.beq z 1 then ja x fun s=>k (.str s)else bif Nat.beq z 0 then ja x fun s=>k (.str s)else k x
def elG (z:Nat)(x:Da)(k:Da->R):R:=bif Nat.beq z 8 then bf x fun t=>k t.e else bif Nat.beq z 3 then bq x fun t=>k t.e else bif Nat.beq z 4 then bM x fun t=>k t.e else bif Nat.beq z 7 then cq x fun t=>k t.e else bif Nat.beq z 2 then fe x fun t=>k t.e else bif Nat.beq z 5 then ag x fun t=>k t.e else bif Nat.beq z 6 then bQ x fun t=>k t.e else bif Nat.beq z 18 then aY x fun t=>k t.e else bif Nat.beq z 2001 then bg .i64 x fun i=>k (.int .i64 i)else bif Nat.beq z 1 then bg .i64 x fun i=>k (.int .i64 i)else bif Nat.beq z 0 then bg .i64 x fun i=>k (.int .i64 i)else k x
def elL (z:Nat)(x:Da)(k:Da->R):R:=bif Nat.beq z 8 then bf x fun t=>k t.e else bif Nat.beq z 3 then jx x fun t=>k t.e else bif Nat.beq z 4 then bM x fun t=>k t.e else bif Nat.beq z 7 then cq x fun t=>k t.e else bif Nat.beq z 2 then cR x fun t=>k t.e else bif Nat.beq z 5 then ag x fun t=>k t.e else bif Nat.beq z 6 then bQ x fun t=>k t.e else bif Nat.beq z 18 then aY x fun t=>k t.e else bif Nat.beq z 2001 then DE 3 x fun l=>k (.slice 3 l)else bif Nat.beq z 1 then DE 3 x fun l=>k (.slice 3 l)else bif Nat.beq z 0 then DE 3 x fun l=>k (.slice 3 l)else k x
def elV (z:Nat)(x:Da)(k:Da->R):R:=bif Nat.beq z 8 then bf x fun t=>k t.e else bif Nat.beq z 3 then bq x fun t=>k t.e else bif Nat.beq z 4 then bM x fun t=>k t.e else bif Nat.beq z 7 then cq x fun t=>k t.e else bif Nat.beq z 2 then cR x fun t=>k t.e else bif Nat.beq z 5 then ag x fun t=>k t.e else bif Nat.beq z 6 then bQ x fun t=>k t.e else bif Nat.beq z 18 then aY x fun t=>k t.e else bif Nat.beq z 1005 then ag x fun t=>k t.e else bif Nat.beq z 4001 then ag x fun t=>k t.e else bif Nat.beq z 5001 then ag x fun t=>k t.e else bif Nat.beq z 2001 then bg .i64 x fun i=>k (.int .i64 i)else bif Nat.beq z 1 then bg .i64 x fun i=>k (.int .i64 i)else bif Nat.beq z 0 then bg .i64 x fun i=>k (.int .i64 i)else k x
def elE (z:Nat)(x:Da)(k:Da->R):R:=bif Nat.beq z 8 then bf x fun t=>k t.e else bif Nat.beq z 3 then bq x fun t=>k t.e else bif Nat.beq z 4 then rI x fun t=>k t.e else bif Nat.beq z 7 then cq x fun t=>k t.e else bif Nat.beq z 2 then cR x fun t=>k t.e else bif Nat.beq z 5 then ag x fun t=>k t.e else bif Nat.beq z 6 then bQ x fun t=>k t.e else bif Nat.beq z 18 then aY x fun t=>k t.e else bif Nat.beq z 2001 then bg .i64 x fun i=>k (.int .i64 i)else bif Nat.beq z 1 then bg .i64 x fun i=>k (.int .i64 i)else bif Nat.beq z 0 then bg .i64 x fun i=>k (.int .i64 i)else k x
def elW (z:Nat)(x:Da)(k:Da->R):R:=bif Nat.beq z 8 then bf x fun t=>k t.e else bif Nat.beq z 3 then bq x fun t=>k t.e else bif Nat.beq z 4 then bM x fun t=>k t.e else bif Nat.beq z 7 then cq x fun t=>k t.e else bif Nat.beq z 2 then cR x fun t=>k t.e else bif Nat.beq z 5 then ag x fun t=>k t.e else bif Nat.beq z 6 then bQ x fun t=>k t.e else bif Nat.beq z 18 then aY x fun t=>k t.e else bif Nat.beq z 2001 then iL (Sb x) (ja x fun s=>k (.str s)) (bg .i64 x fun i=>k (.int .i64 i))else bif Nat.beq z 1 then iL (Sb x) (ja x fun s=>k (.str s)) (bg .i64 x fun i=>k (.int .i64 i))else bif Nat.beq z 0 then iL (Sb x) (ja x fun s=>k (.str s)) (bg .i64 x fun i=>k (.int .i64 i))else k x
def dcI:jh:=⟨elI,VQ,XP,false,true,false⟩
def abD:jh:=⟨elI,VQ,XP,false,false,false⟩
def abC:jh:=⟨elI,VQ,XP,true,true,false⟩
def dcS:jh:=⟨elS,VQ,XP,false,true,false⟩
def abE:jh:=⟨elS,VQ,XP,false,false,false⟩
def abB:jh:=⟨elG,VQ,XP,true,true,false⟩
def dcL:jh:=⟨elL,VQ,XP,false,true,false⟩
def abF:jh:=⟨elV,VQ,XP,false,false,true⟩
def adq:jh:=⟨elE,VQ,XP,false,false,false⟩
def abG:jh:=⟨elW,VQ,XP,false,false,false⟩
def LZ (z:Nat)(x:Da)(k:Da->R):Le (elI z x k) (k x):=by
 unfold elI;exact aE (dE fun _ q=>by subst q;exact Le.refl _)<|aE (de fun _ q=>by subst q;exact Le.refl _)<|aE (dz fun _ q=>by subst q;exact Le.refl _)<|aE (dY fun _ q=>by subst q;exact Le.refl _)<|aE (fA fun _ q=>by subst q;exact Le.refl _)<|aE (bV fun _ q=>by subst q;exact Le.refl _)<|aE (dZ fun _ q=>by subst q;exact Le.refl _)<|aE (c9 fun _ q=>by subst q;exact Le.refl _)<|aE (c5 fun _ q=>by subst q;exact Le.refl _)<|aE (c5 fun _ q=>by subst q;exact Le.refl _)<|aE (c5 fun _ q=>by subst q;exact Le.refl _)<|Le.refl _
def WH (z:Nat)(x:Da)(k:Da->R):Le (elS z x k) (k x):=by
 unfold elS;exact aE (dE fun _ q=>by subst q;exact Le.refl _)<|aE (de fun _ q=>by subst q;exact Le.refl _)<|aE (dz fun _ q=>by subst q;exact Le.refl _)<|aE (dY fun _ q=>by subst q;exact Le.refl _)<|aE (fA fun _ q=>by subst q;exact Le.refl _)<|aE (bV fun _ q=>by subst q;exact Le.refl _)<|aE (dZ fun _ q=>by subst q;exact Le.refl _)<|aE (c9 fun _ q=>by subst q;exact Le.refl _)<|aE (jw fun _ q=>by subst q;exact Le.refl _)<|aE (jw fun _ q=>by subst q;exact Le.refl _)<|aE (jw fun _ q=>by subst q;exact Le.refl _)<|Le.refl _
def Ϡ (z:Nat)(x:Da)(k:Da->R):Le (elG z x k) (k x):=by
 unfold elG;exact aE (dE fun _ q=>by subst q;exact Le.refl _)<|aE (de fun _ q=>by subst q;exact Le.refl _)<|aE (dz fun _ q=>by subst q;exact Le.refl _)<|aE (dY fun _ q=>by subst q;exact Le.refl _)<|aE (oa fun _ q=>by subst q;exact Le.refl _)<|aE (bV fun _ q=>by subst q;exact Le.refl _)<|aE (dZ fun _ q=>by subst q;exact Le.refl _)<|aE (c9 fun _ q=>by subst q;exact Le.refl _)<|aE (c5 fun _ q=>by subst q;exact Le.refl _)<|aE (c5 fun _ q=>by subst q;exact Le.refl _)<|aE (c5 fun _ q=>by subst q;exact Le.refl _)<|Le.refl _
def ϡ (z:Nat)(x:Da)(k:Da->R):Le (elL z x k) (k x):=by
 unfold elL;exact aE (dE fun _ q=>by subst q;exact Le.refl _)<|aE (wx fun _ q=>by subst q;exact Le.refl _)<|aE (dz fun _ q=>by subst q;exact Le.refl _)<|aE (dY fun _ q=>by subst q;exact Le.refl _)<|aE (fA fun _ q=>by subst q;exact Le.refl _)<|aE (bV fun _ q=>by subst q;exact Le.refl _)<|aE (dZ fun _ q=>by subst q;exact Le.refl _)<|aE (c9 fun _ q=>by subst q;exact Le.refl _)<|aE (uv fun _ q=>by subst q;exact Le.refl _)<|aE (uv fun _ q=>by subst q;exact Le.refl _)<|aE (uv fun _ q=>by subst q;exact Le.refl _)<|Le.refl _
def Ϣ (z:Nat)(x:Da)(k:Da->R):Le (elV z x k) (k x):=by
 unfold elV;exact aE (dE fun _ q=>by subst q;exact Le.refl _)<|aE (de fun _ q=>by subst q;exact Le.refl _)<|aE (dz fun _ q=>by subst q;exact Le.refl _)<|aE (dY fun _ q=>by subst q;exact Le.refl _)<|aE (fA fun _ q=>by subst q;exact Le.refl _)<|aE (bV fun _ q=>by subst q;exact Le.refl _)<|aE (dZ fun _ q=>by subst q;exact Le.refl _)<|aE (c9 fun _ q=>by subst q;exact Le.refl _)<|aE (bV fun _ q=>by subst q;exact Le.refl _)<|aE (bV fun _ q=>by subst q;exact Le.refl _)<|aE (bV fun _ q=>by subst q;exact Le.refl _)<|aE (c5 fun _ q=>by subst q;exact Le.refl _)<|aE (c5 fun _ q=>by subst q;exact Le.refl _)<|aE (c5 fun _ q=>by subst q;exact Le.refl _)<|Le.refl _
def ada (z:Nat)(x:Da)(k:Da->R):Le (elE z x k) (k x):=by
 unfold elE;exact aE (dE fun _ q=>by subst q;exact Le.refl _)<|aE (de fun _ q=>by subst q;exact Le.refl _)<|aE (acu fun _ q=>by subst q;exact Le.refl _)<|aE (dY fun _ q=>by subst q;exact Le.refl _)<|aE (fA fun _ q=>by subst q;exact Le.refl _)<|aE (bV fun _ q=>by subst q;exact Le.refl _)<|aE (dZ fun _ q=>by subst q;exact Le.refl _)<|aE (c9 fun _ q=>by subst q;exact Le.refl _)<|aE (c5 fun _ q=>by subst q;exact Le.refl _)<|aE (c5 fun _ q=>by subst q;exact Le.refl _)<|aE (c5 fun _ q=>by subst q;exact Le.refl _)<|Le.refl _
def ϣ (z:Nat)(x:Da)(k:Da->R):Le (elW z x k) (k x):=by
 unfold elW;exact aE (dE fun _ q=>by subst q;exact Le.refl _)<|aE (de fun _ q=>by subst q;exact Le.refl _)<|aE (dz fun _ q=>by subst q;exact Le.refl _)<|aE (dY fun _ q=>by subst q;exact Le.refl _)<|aE (fA fun _ q=>by subst q;exact Le.refl _)<|aE (bV fun _ q=>by subst q;exact Le.refl _)<|aE (dZ fun _ q=>by subst q;exact Le.refl _)<|aE (c9 fun _ q=>by subst q;exact Le.refl _)<|aE (Le.two (fun _=>jw fun _ q=>by subst q;exact Le.refl _) (fun _=>c5 fun _ q=>by subst q;exact Le.refl _))<|aE (Le.two (fun _=>jw fun _ q=>by subst q;exact Le.refl _) (fun _=>c5 fun _ q=>by subst q;exact Le.refl _))<|aE (Le.two (fun _=>jw fun _ q=>by subst q;exact Le.refl _) (fun _=>c5 fun _ q=>by subst q;exact Le.refl _))<|Le.refl _
def m3 (f:Nat)(hi:List Ob)(v:D)(o:List Ob)(k:KV):Le (VQ f hi v o k) (k v o):=by
 unfold VQ;exact aE (ZT hi v o k)<|aE (ZO hi v o k)<|aE (ZL hi v o k)<|aE (ZN hi v o k)<|aE (ZZ hi v o k)<|aE (ZU hi v o k)<|aE (ZW hi v o k)<|aE (ZV hi v o k)<|aE (OE hi v o k)<|aE (OE hi v o k)<|aE (OD hi v o k)<|aE (OD hi v o k)<|aE (ZY hi v o k)<|aE (m4 hi v o k)<|aE (m4 hi v o k)<|aE (m4 hi v o k)<|aE (m4 hi v o k)<|aE (m4 hi v o k)<|aE (m4 hi v o k)<|aE (m4 hi v o k)<|aE (DA hi v o k)<|aE (DA hi v o k)<|aE (DA hi v o k)<|aE (ZX hi v o k)<|aE (ZP hi v o k)<|aE (ZQ hi v o k)<|aE (ZR hi v o k)<|aE (ZS hi v o k)<|aE (iZ hi v o k)<|aE (iZ hi v o k)<|aE (iZ hi v o k)<|aE (qz hi v o k)<|aE (qz hi v o k)<|aE (iZ hi v o k)<|aE (qz hi v o k)<|aE (iZ hi v o k)<|aE (LJ hi v o k)<|aE (LJ hi v o k)<|aE (qz hi v o k)<|aE (iZ hi v o k)<|aE (iZ hi v o k)<|aE (iZ hi v o k)<|aE (qz hi v o k)<|aE (iZ hi v o k)<|aE (qz hi v o k)<|aE (iZ hi v o k)<|aE (LJ hi v o k)<|aE (iZ hi v o k)<|aE (iZ hi v o k)<|aE (qz hi v o k)<|Le.refl _
def nb (z:D)(x:Da)(k:Da->R):Le (XP z x k) (k x):=by
 unfold XP;split
 ·exact c5 fun _ q=>by subst q;exact Le.refl _
 ·exact rG fun _ q=>by subst q;exact Le.refl _
 ·skip
  cases Nat.beq _ 3<;>simp only[cond_true,cond_false];rotate_left
  ·exact pF fun _ q=>by subst q;exact Le.refl _
  exact Le.refl _
 ·exact Le.refl _
def aL:(dcI).Ok:=⟨LZ,m3,nb⟩
def OP:(abC).Ok:=⟨LZ,m3,nb⟩
def bh:(abD).Ok:=⟨LZ,m3,nb⟩
def ge:(dcS).Ok:=⟨WH,m3,nb⟩
def rJ:(abE).Ok:=⟨WH,m3,nb⟩
def DG:(abB).Ok:=⟨Ϡ,m3,nb⟩
def ϙ:(dcL).Ok:=⟨ϡ,m3,nb⟩
def bB:(abF).Ok:=⟨Ϣ,m3,nb⟩
def acR:(adq).Ok:=⟨ada,m3,nb⟩
def DH:(abG).Ok:=⟨ϣ,m3,nb⟩
def eJ (f:Nat):Fx:=(jc prog0 globs0 gT f).getD ⟨.skip,[],false⟩
variable {dc:jh}
def fnT (lp:ab->cQ)(F:ab->R){f n:Nat}{args:List D}{hp:List Ob}(hd:dc.Ok)(hx:lay0.tab f=some (.code (eJ f)))(hm:eo f args hp.length=m)(hl:∀{cc:ab} {call:aG},bF cc call->∀e∈cD (eJ f).body 1,bv (lp cc) call n m e)(h:∀cc,SS m (lp cc) dc cc n (eJ f) args hp=F cc):Le (F (ct lay0.tab n)) (evFn lay0.tab (n+1) f args hp):=
 aaJ hd hx hm (hl (WQ _ _)) (h _)
def ij (F:ab->R)(f:Nat)(args:List D)(hp:List Ob)(m n:Nat)(hd:dc.Ok)(lp:ab->cQ){l:List (Nat×LN×Co×Bool)}(hl:∀{cc:ab} {call:aG},bF cc call->uZ (lp cc) call n m l)(hx:lay0.tab f=some (.code (eJ f)):=by kernel_rfl)(hm:eo f args hp.length=m:=by kernel_rfl)(hb:cD (eJ f).body 1=l:=by kernel_rfl)(h:∀cc,SS m (lp cc) dc cc n (eJ f) args hp=F cc:=by intro _;kernel_rfl):Le (F (ct lay0.tab n)) (evFn lay0.tab (n+1) f args hp):=
 fnT lp F hd hx hm (fun hc=>On hb (hl hc)) h
def dG (F:ab->R)(f:Nat)(args:List D)(hp:List Ob)(m n:Nat)(hd:dc.Ok)(hx:lay0.tab f=some (.code (eJ f)):=by kernel_rfl)(hm:eo f args hp.length=m:=by kernel_rfl)(hb:cD (eJ f).body 1=[]:=by kernel_rfl)(h:∀cc,SS m cK dc cc n (eJ f) args hp=F cc:=by intro _;kernel_rfl):Le (F (ct lay0.tab n)) (evFn lay0.tab (n+1) f args hp):=
 ij F f args hp m n hd (fun _=>cK) (fun _=>aH) hx hm hb h
section
variable {ST:Type} {q:Nat} {r:Rd dT ST} {lp:cQ} {dc:jh} {cc:ab} {call:aG} {n m:Nat} {live:LN} {b:Co} {l:List (Nat×LN×Co×Bool)}
def cE {S:JJ->(ST->R)->ST->R}(hd:dc.Ok)(hc:bF cc call)(hin:uZ lp call n m l)(hl:cD b q=l:=by kernel_rfl)
  (hS:∀(J:JJ) (Y:ST->R) st,wy lp dc cc n m b q (r.e st).1 (r.e st).2 (fun ex tm hp=>YE ex (Ph m live tm hp fun tm hp=>r.d (tm,hp) Y) (fun i=>J (.exit i) tm hp) (J .ret tm hp))=S J Y st:=by intro _ _ _;kernel_rfl):bv (gm q r S lp) call n m (q,live,b,true):=i_ hd hc hS (On hl hin)
def lX {S:JJ->ST->R}(hd:dc.Ok)(hc:bF cc call)(hin:uZ lp call n m l)(hl:cD b (4*q+3)=l:=by kernel_rfl)
  (hS:∀(J:JJ) st,wy lp dc cc n m b (4*q+3) (r.e st).1 (r.e st).2 J=S J st:=by intro _ _;kernel_rfl):bv (xn q r S lp) call n m (q,live,b,false):=k_ hd hc hS (On hl hin)
def EG {S:JJ->(ST->R)->ST->R}{e:Nat×LN×Co×Bool}(h:bv lp call n m e)(hq:Nat.beq e.1 q=false:=by kernel_rfl):bv (gm q r S lp) call n m e:=j_ hq h
def gN {S:JJ->ST->R}{e:Nat×LN×Co×Bool}(h:bv lp call n m e)(hq:Nat.beq e.1 q=false:=by kernel_rfl):bv (xn q r S lp) call n m e:=l_ hq h
end
abbrev Ω:=evFn lay0.tab
end
end Go.Ab
