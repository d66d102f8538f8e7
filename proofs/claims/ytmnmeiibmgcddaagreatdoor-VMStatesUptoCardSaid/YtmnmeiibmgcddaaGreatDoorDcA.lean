import Derived.Test.YtmnmeiibmgcddaaGreatDoorAl
import Derived.Test.YtmnmeiibmgcddaaGreatDoorAwZ
import Derived.KernelRfl
set_option linter.all false
namespace Go.Ab
open Go
set_option maxRecDepth 100000
noncomputable section
class Iso (A B:Type) where
 f:A->B
 g:B->A
 h:∀a,g (f a)=a
section
variable {A B C D:Type}
instance (priority:=10) iso0:Iso A A:=⟨id,id,fun _=>rfl⟩
instance isoU [s:Iso A B]:Iso (A×Unit) B:=⟨fun a=>s.f a.1,fun b=>(s.g b,()),fun a=>by rw[s.h]⟩
instance (priority:=20) isoP [s:Iso A B][u:Iso C D]:Iso (A×C) (B×D):=⟨fun a=>(s.f a.1,u.f a.2),fun b=>(s.g b.1,u.g b.2),fun a=>by rw[s.h,u.h]⟩
instance (priority:=5) isoA {Z:Type}[s:Iso (A×B×C) Z]:Iso ((A×B)×C) Z:=⟨fun a=>s.f (a.1.1,a.1.2,a.2),fun z=>(((s.g z).1,(s.g z).2.1),(s.g z).2.2),fun a=>by rw[s.h]⟩
instance (priority:=30) isoN {Z:Type}[s:Iso C Z]:Iso (Unit×C) Z:=⟨fun a=>s.f a.2,fun z=>((),s.g z),fun a=>by rw[s.h]⟩
end
namespace Rd
variable {T α β:Type}
def tl (r:Rd T α)[s:Iso α β]:Rd T β:=r.rm s.f s.g s.h
def i (k:Nat)(r:Rd (Tm×List Go.Ab.Ob) β):=t k (P (I .i64)) r
def l (k z:Nat)(r:Rd (Tm×List Go.Ab.Ob) β):=t k (P (L z)) r
def b (k:Nat)(r:Rd (Tm×List Go.Ab.Ob) β):=t k (P B) r
def s (k:Nat)(r:Rd (Tm×List Go.Ab.Ob) β):=t k (P S) r
def o (k i:Nat)(r:Rd (Tm×List Go.Ab.Ob) β):=v k (Bo i 0) r
def ci (r:Rd (List D) β):=c (P (I .i64)) r
def cl (z:Nat)(r:Rd (List D) β):=c (P (L z)) r
def cs (r:Rd (List D) β):=c (P S) r
def co (i:Nat)(r:Rd (List D) β):=u (Bo i 0) r
def gi (r:Rd (LD) β):=c (I .i64) r
def gl (z:Nat)(r:Rd (LD) β):=c (L z) r
def gs (r:Rd (LD) β):=c S r
end Rd
abbrev pI (i:Int):D:= .p (.int .i64 i)
abbrev pL (z:Nat)(l:LD):D:= .p (.slice z l)
abbrev pS (s:LN):D:= .p (.str s)
abbrev pB (b:Bool):D:= .p (.bool b)
def tI (k:Nat)(i:Int)(r:Tm):Tm:= .cons k (.p (.int .i64 i)) r
def tL (k z:Nat)(l:LD)(r:Tm):Tm:= .cons k (.p (.slice z l)) r
def tS (k:Nat)(s:LN)(r:Tm):Tm:= .cons k (.p (.str s)) r
def tB (k:Nat)(b:Bool)(r:Tm):Tm:= .cons k (.p (.bool b)) r
def tO (k i:Nat)(r:Tm):Tm:= .cons k (.box i 0) r
abbrev rT:R:=some (.p (.bool true),[])
abbrev rF:R:=some (.p (.bool false),[])
def bb {ST:Type}{S:(ST->R)->ST->R}{q:Nat}{h:ST}:itL S (q+1) h=S (itL S q) h:=rfl
def YZ (a b:Ob):Bool:= @decide (a=b) (Classical.propDecidable _)
noncomputable instance mvG:Mv:=⟨fun f=>KO f [97,58,170,171,100,99,98,59,56,228,96,57,164,166,225,226,227,230,232,236,160,163,165],fun f=>0,fun f=>KO f [161],fun a b=>qK a b||YZ a b,fun a b h=>by rw[qγ]at h;exact h.elim zh (@of_decide_eq_true _ (Classical.propDecidable _)),fun _ _ a=>by rw[qγ];exact .inr (@lν _ (Classical.propDecidable _) rfl)⟩
def zB:Da->Bool| .bool _=>true|_=>false
def PO:Da->Bool| .agg _=>true|_=>false
def PQ:Da->Bool| .agg (.bool _::_)=>true|_=>false
def cf (hi o:List Ob)(k:R):R:= @ite _ (o=hi) (Classical.propDecidable _) k none
variable {Z:R}
def Cu {hi o:List Ob}{k:R}(h:o=hi->Le k Z):Le (cf hi o k) Z:=by
 unfold cf;split
 ·rename_i e;exact h e
 ·exact Le.no _
def bM (hi:List Ob)(k:R):cf hi hi k=k:=by
 unfold cf;exact if_pos rfl
structure av where
 Types:LD
def av.e (t:av):Da:= .agg [.slice 3 t.Types]
def av.b (t:av):Ob:= .box [.p (.slice 3 t.Types)]
structure bd where
 (Type_ Method PC:Int)
 Locals:LD
def bd.e (t:bd):Da:= .agg [.int .i64 t.Type_,.int .i64 t.Method,.int .i64 t.PC,.slice 5 t.Locals]
def bd.b (t:bd):Ob:= .box [.p (.int .i64 t.Type_),.p (.int .i64 t.Method),.p (.int .i64 t.PC),.p (.slice 5 t.Locals)]
def r_api_Machine:Rd Da bd:= .rm (.G (.gi<| .gi<| .gi<| .gl 5 .n)) (fun(v0,(v1,(v2,(v3,()))))=>⟨v0,v1,v2,v3⟩) (fun t=>(t.Type_,(t.Method,(t.PC,(t.Locals,())))))
def ű (x:Da)(k:bd->R):R:=r_api_Machine.d x k
structure aw where
 (Kind N:Int)
 S:LN
 (I L:LD)
def aw.e (t:aw):Da:= .agg [.int .i64 t.Kind,.int .i64 t.N,.str t.S,.slice 1 t.I,.slice 1 t.L]
def aw.b (t:aw):Ob:= .box [.p (.int .i64 t.Kind),.p (.int .i64 t.N),.p (.str t.S),.p (.slice 1 t.I),.p (.slice 1 t.L)]
instance:Iso (Int×Int×LN×LD×LD×Unit) aw:=⟨fun(Kind,N,S,I,L,())=>⟨Kind,N,S,I,L⟩,fun t=>(t.Kind,t.N,t.S,t.I,t.L,()),fun _=>rfl⟩
def r_api_Value:Rd Da aw:= .tl<| .G (.gi<| .gi<| .gs<| .gl 1<| .gl 1 .n)
def ao (x:Da)(k:aw->R):R:=r_api_Value.d x k
def cm {x:Da}{k:aw->R}(h:∀t:aw,x=t.e->Le (k t) Z):Le (ao x k) Z:=r_api_Value.le _ _ _ h
structure gM where
 (Target_Type Target_Key Method:LN)
 Args:LD
def gM.e (t:gM):Da:= .agg [.str t.Target_Type,.str t.Target_Key,.str t.Method,.slice 5 t.Args]
def gM.b (t:gM):Ob:= .box [.p (.str t.Target_Type),.p (.str t.Target_Key),.p (.str t.Method),.p (.slice 5 t.Args)]
def r_api_ActorCall:Rd Da gM:= .rm (.G (.gs<| .gs<| .gs<| .gl 5 .n)) (fun(v0,(v1,(v2,(v3,()))))=>⟨v0,v1,v2,v3⟩) (fun t=>(t.Target_Type,(t.Target_Key,(t.Method,(t.Args,())))))
def aaz (x:Da)(k:gM->R):R:=r_api_ActorCall.d x k
def aaX {x:Da}{k:gM->R}(h:∀t:gM,x=t.e->Le (k t) Z):Le (aaz x k) Z:=r_api_ActorCall.le _ _ _ h
structure cd where
 (Kind Value_Kind Value_N:Int)
 Value_S:LN
 (Value_I Value_L:LD)
 (Call_Target_Type Call_Target_Key Call_Method:LN)
 Call_Args:LD
 (Err Machine_Type Machine_Method Machine_PC:Int)
 (Machine_Locals Fields Effects:LD)
 Fuel:Int
def cd.e (t:cd):Da:= .agg [.int .i64 t.Kind,.int .i64 t.Value_Kind,.int .i64 t.Value_N,.str t.Value_S,.slice 1 t.Value_I,.slice 1 t.Value_L,.str t.Call_Target_Type,.str t.Call_Target_Key,.str t.Call_Method,.slice 5 t.Call_Args,.int .i64 t.Err,.int .i64 t.Machine_Type,.int .i64 t.Machine_Method,.int .i64 t.Machine_PC,.slice 5 t.Machine_Locals,.slice 5 t.Fields,.slice 4 t.Effects,.int .i64 t.Fuel]
def cd.b (t:cd):Ob:= .box [.p (.int .i64 t.Kind),.p (.int .i64 t.Value_Kind),.p (.int .i64 t.Value_N),.p (.str t.Value_S),.p (.slice 1 t.Value_I),.p (.slice 1 t.Value_L),.p (.str t.Call_Target_Type),.p (.str t.Call_Target_Key),.p (.str t.Call_Method),.p (.slice 5 t.Call_Args),.p (.int .i64 t.Err),.p (.int .i64 t.Machine_Type),.p (.int .i64 t.Machine_Method),.p (.int .i64 t.Machine_PC),.p (.slice 5 t.Machine_Locals),.p (.slice 5 t.Fields),.p (.slice 4 t.Effects),.p (.int .i64 t.Fuel)]
def r_api_Segment:Rd Da cd:= .rm (.G (.gi<| .gi<| .gi<| .gs<| .gl 1<| .gl 1<| .gs<| .gs<| .gs<| .gl 5<| .gi<| .gi<| .gi<| .gi<| .gl 5<| .gl 5<| .gl 4<| .gi .n)) (fun(v0,(v1,(v2,(v3,(v4,(v5,(v6,(v7,(v8,(v9,(v10,(v11,(v12,(v13,(v14,(v15,(v16,(v17,()))))))))))))))))))=>⟨v0,v1,v2,v3,v4,v5,v6,v7,v8,v9,v10,v11,v12,v13,v14,v15,v16,v17⟩) (fun t=>(t.Kind,(t.Value_Kind,(t.Value_N,(t.Value_S,(t.Value_I,(t.Value_L,(t.Call_Target_Type,(t.Call_Target_Key,(t.Call_Method,(t.Call_Args,(t.Err,(t.Machine_Type,(t.Machine_Method,(t.Machine_PC,(t.Machine_Locals,(t.Fields,(t.Effects,(t.Fuel,())))))))))))))))))))
def cG (x:Da)(k:cd->R):R:=r_api_Segment.d x k
def qE {x:Da}{k:cd->R}(h:∀t:cd,x=t.e->Le (k t) Z):Le (cG x k) Z:=r_api_Segment.le _ _ _ h
structure ah where
 Name:LN
 (Fields Methods:LD)
def ah.e (t:ah):Da:= .agg [.str t.Name,.slice 7 t.Fields,.slice 5 t.Methods]
def ah.b (t:ah):Ob:= .box [.p (.str t.Name),.p (.slice 7 t.Fields),.p (.slice 5 t.Methods)]
def r_api_CodeType:Rd Da ah:= .rm (.G (.gs<| .gl 7<| .gl 5 .n)) (fun(v0,(v1,(v2,())))=>⟨v0,v1,v2⟩) (fun t=>(t.Name,(t.Fields,(t.Methods,()))))
def aF (x:Da)(k:ah->R):R:=r_api_CodeType.d x k
def bT {x:Da}{k:ah->R}(h:∀t:ah,x=t.e->Le (k t) Z):Le (aF x k) Z:=r_api_CodeType.le _ _ _ h
structure aj where
 Name:LN
 Params:LD
 Result:Int
 (Locals Code:LD)
def aj.e (t:aj):Da:= .agg [.str t.Name,.slice 1 t.Params,.int .i64 t.Result,.slice 1 t.Locals,.slice 8 t.Code]
def aj.b (t:aj):Ob:= .box [.p (.str t.Name),.p (.slice 1 t.Params),.p (.int .i64 t.Result),.p (.slice 1 t.Locals),.p (.slice 8 t.Code)]
def r_api_CodeMethod:Rd Da aj:= .rm (.G (.gs<| .gl 1<| .gi<| .gl 1<| .gl 8 .n)) (fun(v0,(v1,(v2,(v3,(v4,())))))=>⟨v0,v1,v2,v3,v4⟩) (fun t=>(t.Name,(t.Params,(t.Result,(t.Locals,(t.Code,()))))))
def aN (x:Da)(k:aj->R):R:=r_api_CodeMethod.d x k
def ik {x:Da}{k:aj->R}(h:∀t:aj,x=t.e->Le (k t) Z):Le (aN x k) Z:=r_api_CodeMethod.le _ _ _ h
structure ef where
 Kind:Int
 Name:LN
 (A B:Int)
def ef.e (t:ef):Da:= .agg [.int .i64 t.Kind,.str t.Name,.int .i64 t.A,.int .i64 t.B]
def ef.b (t:ef):Ob:= .box [.p (.int .i64 t.Kind),.p (.str t.Name),.p (.int .i64 t.A),.p (.int .i64 t.B)]
def r_api_Effect:Rd Da ef:= .rm (.G (.gi<| .gs<| .gi<| .gi .n)) (fun(v0,(v1,(v2,(v3,()))))=>⟨v0,v1,v2,v3⟩) (fun t=>(t.Kind,(t.Name,(t.A,(t.B,())))))
def bP (x:Da)(k:ef->R):R:=r_api_Effect.d x k
def cq {x:Da}{k:ef->R}(h:∀t:ef,x=t.e->Le (k t) Z):Le (bP x k) Z:=r_api_Effect.le _ _ _ h
structure cz where
 Name:LN
 (Kind Init_Kind Init_N:Int)
 Init_S:LN
 (Init_I Init_L:LD)
def cz.e (t:cz):Da:= .agg [.str t.Name,.int .i64 t.Kind,.int .i64 t.Init_Kind,.int .i64 t.Init_N,.str t.Init_S,.slice 1 t.Init_I,.slice 1 t.Init_L]
def cz.b (t:cz):Ob:= .box [.p (.str t.Name),.p (.int .i64 t.Kind),.p (.int .i64 t.Init_Kind),.p (.int .i64 t.Init_N),.p (.str t.Init_S),.p (.slice 1 t.Init_I),.p (.slice 1 t.Init_L)]
def r_api_Field:Rd Da cz:= .rm (.G (.gs<| .gi<| .gi<| .gi<| .gs<| .gl 1<| .gl 1 .n)) (fun(v0,(v1,(v2,(v3,(v4,(v5,(v6,())))))))=>⟨v0,v1,v2,v3,v4,v5,v6⟩) (fun t=>(t.Name,(t.Kind,(t.Init_Kind,(t.Init_N,(t.Init_S,(t.Init_I,(t.Init_L,()))))))))
def bE (x:Da)(k:cz->R):R:=r_api_Field.d x k
def cI {x:Da}{k:cz->R}(h:∀t:cz,x=t.e->Le (k t) Z):Le (bE x k) Z:=r_api_Field.le _ _ _ h
structure aq where
 (Op A B Value_Kind Value_N:Int)
 Value_S:LN
 (Value_I Value_L:LD)
def aq.e (t:aq):Da:= .agg [.int .i64 t.Op,.int .i64 t.A,.int .i64 t.B,.int .i64 t.Value_Kind,.int .i64 t.Value_N,.str t.Value_S,.slice 1 t.Value_I,.slice 1 t.Value_L]
def aq.b (t:aq):Ob:= .box [.p (.int .i64 t.Op),.p (.int .i64 t.A),.p (.int .i64 t.B),.p (.int .i64 t.Value_Kind),.p (.int .i64 t.Value_N),.p (.str t.Value_S),.p (.slice 1 t.Value_I),.p (.slice 1 t.Value_L)]
def r_api_Instr:Rd Da aq:= .rm (.G (.gi<| .gi<| .gi<| .gi<| .gi<| .gs<| .gl 1<| .gl 1 .n)) (fun(v0,(v1,(v2,(v3,(v4,(v5,(v6,(v7,()))))))))=>⟨v0,v1,v2,v3,v4,v5,v6,v7⟩) (fun t=>(t.Op,(t.A,(t.B,(t.Value_Kind,(t.Value_N,(t.Value_S,(t.Value_I,(t.Value_L,())))))))))
def bu (x:Da)(k:aq->R):R:=r_api_Instr.d x k
def cJ {x:Da}{k:aq->R}(h:∀t:aq,x=t.e->Le (k t) Z):Le (bu x k) Z:=r_api_Instr.le _ _ _ h
structure eb where
 Known:Bool
 (Stack Set:LD)
def eb.e (t:eb):Da:= .agg [.bool t.Known,.slice 1 t.Stack,.slice 1 t.Set]
def eb.b (t:eb):Ob:= .box [.p (.bool t.Known),.p (.slice 1 t.Stack),.p (.slice 1 t.Set)]
def r_actorgridref20_Point:Rd Da eb:= .rm (.G (.c .B (.gl 1<| .gl 1 .n))) (fun(v0,(v1,(v2,())))=>⟨v0,v1,v2⟩) (fun t=>(t.Known,(t.Stack,(t.Set,()))))
def ea (x:Da)(k:eb->R):R:=r_actorgridref20_Point.d x k
def hP {x:Da}{k:eb->R}(h:∀t:eb,x=t.e->Le (k t) Z):Le (ea x k) Z:=r_actorgridref20_Point.le _ _ _ h
structure bh where
 reached:Bool
 stack:LD
 set:Int
def bh.e (t:bh):Da:= .agg [.bool t.reached,.slice 1 t.stack,.int .u64 t.set]
def bh.b (t:bh):Ob:= .box [.p (.bool t.reached),.p (.slice 1 t.stack),.p (.int .u64 t.set)]
def r_bytecode_state:Rd Da bh:= .rm (.G (.c .B (.gl 1<| .c (.I .u64) .n))) (fun(v0,(v1,(v2,())))=>⟨v0,v1,v2⟩) (fun t=>(t.reached,(t.stack,(t.set,()))))
def aK (x:Da)(k:bh->R):R:=r_bytecode_state.d x k
def cS {x:Da}{k:bh->R}(h:∀t:bh,x=t.e->Le (k t) Z):Le (aK x k) Z:=r_bytecode_state.le _ _ _ h
structure eI where
 Takes:Int
 Puts:LD
 OK:Bool
def eI.e (t:eI):Da:= .agg [.int .i64 t.Takes,.slice 1 t.Puts,.bool t.OK]
def eI.b (t:eI):Ob:= .box [.p (.int .i64 t.Takes),.p (.slice 1 t.Puts),.p (.bool t.OK)]
def r_actorgridref20_Effect:Rd Da eI:= .rm (.G (.gi<| .gl 1<| .c .B .n)) (fun(v0,(v1,(v2,())))=>⟨v0,v1,v2⟩) (fun t=>(t.Takes,(t.Puts,(t.OK,()))))
def dS (x:Da)(k:eI->R):R:=r_actorgridref20_Effect.d x k
structure ĸ where
 (takes does:Da)
def ĸ.e (t:ĸ):Da:= .agg [t.takes,t.does]
def ĸ.b (t:ĸ):Ob:= .box [.p (t.takes),.p (t.does)]
structure bI where
 (takes puts:LD)
def bI.e (t:bI):Da:= .agg [.slice 1 t.takes,.slice 1 t.puts]
def bI.b (t:bI):Ob:= .box [.p (.slice 1 t.takes),.p (.slice 1 t.puts)]
def r_bytecode_effect:Rd Da bI:= .rm (.G (.gl 1<| .gl 1 .n)) (fun(v0,(v1,()))=>⟨v0,v1⟩) (fun t=>(t.takes,(t.puts,())))
def bp (x:Da)(k:bI->R):R:=r_bytecode_effect.d x k
def bF {x:Da}{k:bI->R}(h:∀t:bI,x=t.e->Le (k t) Z):Le (bp x k) Z:=r_bytecode_effect.le _ _ _ h
structure Xn where
 ct:LD
 mn:LN
 mp:LD
 mr:Int
 (ml mc:LD)
 (aT aM aP:Int)
 ln:Nat
 ky:LN
 (fn sn en:Nat)
 dn:Bool
 (oK vK vN:Int)
 vS:LN
 (vI vL:LD)
 (tT tK me:LN)
 ar:LD
 (er oT oM oP:Int)
 (ol of oe:LD)
 fu:Int
 (ls fs st es:LD)
def Xn.bx (j:Nat)(c:Xn):Ob:= .box [.p (.slice 3 c.ct),.p (.str c.mn),.p (.slice 1 c.mp),.p (.int .i64 c.mr),.p (.slice 1 c.ml),.p (.slice 8 c.mc),.p (.int .i64 c.aT),.p (.int .i64 c.aM),.p (.int .i64 c.aP),.arr (j+0) 0 c.ln 5,.p (.str c.ky),.arr (j+1) 0 c.fn 5,.arr (j+2) 0 c.sn 5,.arr (j+3) 0 c.en 4,.p (.bool c.dn),.p (.int .i64 c.oK),.p (.int .i64 c.vK),.p (.int .i64 c.vN),.p (.str c.vS),.p (.slice 1 c.vI),.p (.slice 1 c.vL),.p (.str c.tT),.p (.str c.tK),.p (.str c.me),.p (.slice 5 c.ar),.p (.int .i64 c.er),.p (.int .i64 c.oT),.p (.int .i64 c.oM),.p (.int .i64 c.oP),.p (.slice 5 c.ol),.p (.slice 5 c.of),.p (.slice 4 c.oe),.p (.int .i64 c.fu)]
def Xn.rs (c:Xn):List Ob:=[.arr c.ls,.arr c.fs,.arr c.st,.arr c.es]
def Xn.hp (k:Nat)(c:Xn):List Ob:=c.bx (k+1)::c.rs
def Ċ:LD:=[.int .i64 1,.int .i64 2,.int .i64 4,.int .i64 6,.int .i64 3,.int .i64 5,.int .i64 7,.int .i64 8,.int .i64 9,.int .i64 10,.int .i64 11,.int .i64 12,.int .i64 13,.int .i64 14,.int .i64 15,.int .i64 16,.int .i64 17,.int .i64 18,.int .i64 19,.int .i64 20,.int .i64 21,.int .i64 22,.int .i64 23,.int .i64 24,.int .i64 25,.int .i64 26,.int .i64 27,.int .i64 28,.int .i64 29,.int .i64 30,.int .i64 31,.int .i64 32,.int .i64 33,.int .i64 34,.int .i64 35,.int .i64 36]
def ċ (b:Nat)(r:Int):List D:=[.p (.agg [.fn 235 [.ptr (.agg [.int .i64 0])],.fn 225 [.ptr (.agg [.fn 148 []])]]),.p (.agg [.fn 235 [.ptr (.agg [.int .i64 0])],.fn 225 [.ptr (.agg [.fn 149 []])]]),.p (.agg [.fn 235 [.ptr (.agg [.int .i64 0])],.fn 225 [.ptr (.agg [.fn 150 []])]]),.p (.agg [.fn 235 [.ptr (.agg [.int .i64 0])],.fn 225 [.ptr (.agg [.fn 151 []])]]),.p (.agg [.fn 235 [.ptr (.agg [.int .i64 1])],.fn 226 [.ptr (.agg [.fn 153 []])]]),.p (.agg [.fn 235 [.ptr (.agg [.int .i64 1])],.fn 226 [.ptr (.agg [.fn 154 []])]]),.p (.agg [.fn 235 [.ptr (.agg [.int .i64 1])],.fn 227 [.ptr (.agg [.str [45]])]]),.p (.agg [.fn 235 [.ptr (.agg [.int .i64 1])],.fn 227 [.ptr (.agg [.str [33]])]]),.p (.agg [.fn 235 [.ptr (.agg [.int .i64 2])],.fn 230 [.ptr (.agg [.str [43]])]]),.p (.agg [.fn 235 [.ptr (.agg [.int .i64 2])],.fn 230 [.ptr (.agg [.str [43]])]]),.p (.agg [.fn 235 [.ptr (.agg [.int .i64 2])],.fn 230 [.ptr (.agg [.str [45]])]]),.p (.agg [.fn 235 [.ptr (.agg [.int .i64 2])],.fn 230 [.ptr (.agg [.str [42]])]]),.p (.agg [.fn 235 [.ptr (.agg [.int .i64 2])],.fn 230 [.ptr (.agg [.str [47]])]]),.p (.agg [.fn 235 [.ptr (.agg [.int .i64 2])],.fn 230 [.ptr (.agg [.str [37]])]]),.p (.agg [.fn 235 [.ptr (.agg [.int .i64 2])],.fn 230 [.ptr (.agg [.str [61,61]])]]),.p (.agg [.fn 235 [.ptr (.agg [.int .i64 2])],.fn 230 [.ptr (.agg [.str [33,61]])]]),.p (.agg [.fn 235 [.ptr (.agg [.int .i64 2])],.fn 230 [.ptr (.agg [.str [60]])]]),.p (.agg [.fn 235 [.ptr (.agg [.int .i64 2])],.fn 230 [.ptr (.agg [.str [60,61]])]]),.p (.agg [.fn 235 [.ptr (.agg [.int .i64 2])],.fn 230 [.ptr (.agg [.str [62]])]]),.p (.agg [.fn 235 [.ptr (.agg [.int .i64 2])],.fn 230 [.ptr (.agg [.str [62,61]])]]),.p (.agg [.fn 235 [.ptr (.agg [.int .i64 1])],.fn 232 [.ptr (.agg [.str [108,101,110]])]]),.p (.agg [.fn 235 [.ptr (.agg [.int .i64 2])],.fn 232 [.ptr (.agg [.str [97,116]])]]),.p (.agg [.fn 235 [.ptr (.agg [.int .i64 2])],.fn 232 [.ptr (.agg [.str [97,112,112,101,110,100]])]]),.p (.agg [.fn 235 [.ptr (.agg [.int .i64 3])],.fn 232 [.ptr (.agg [.str [115,101,116]])]]),.p (.agg [.fn 235 [.ptr (.agg [.int .i64 1])],.fn 232 [.ptr (.agg [.str [115,116,114]])]]),.p (.agg [.fn 234 [],.fn 232 [.ptr (.agg [.str [105,110,116,115]])]]),.p (.agg [.fn 234 [],.fn 232 [.ptr (.agg [.str [115,116,114,105,110,103,115]])]]),.p (.agg [.fn 235 [.ptr (.agg [.int .i64 0])],.fn 160 []]),.p (.agg [.fn 235 [.ptr (.agg [.int .i64 1])],.fn 160 []]),.agg [.fn 161 [.box b 0],.p (.fn 163 [])],.p (.agg [.fn 235 [.ptr (.agg [.int .i64 1])],.fn 164 []]),.p (.agg [.fn 235 [.ptr (.agg [.int .i64 r])],.fn 165 []]),.p (.agg [.fn 235 [.ptr (.agg [.int .i64 0])],.fn 166 []]),.p (.agg [.fn 235 [.ptr (.agg [.int .i64 2])],.fn 236 [.ptr (.agg [.int .i64 1])]]),.p (.agg [.fn 235 [.ptr (.agg [.int .i64 3])],.fn 236 [.ptr (.agg [.int .i64 2])]]),.p (.agg [.fn 235 [.ptr (.agg [.int .i64 1])],.fn 236 [.ptr (.agg [.int .i64 3])]])]
def Ob.tabO (b:Nat)(r:Int):Ob:= .mapd Ċ (ċ b r)
def Uv (j:Nat):Rd Ob ((LD)×(LN)×(LD)×(Int)×(LD)×(LD)×(Int)×(Int)×(Int)×(Nat)×(LN)×(Nat)×(Nat)×(Nat)×(Bool)×(Int)×(Int)×(Int)×(LN)×(LD)×(LD)×(LN)×(LN)×(LN)×(LD)×(Int)×(Int)×(Int)×(Int)×(LD)×(LD)×(LD)×(Int)×Unit):= .Ob (.c (.P (.L 3)) (.c (.P .S) (.c (.P (.L 1)) (.c (.P (.I .i64)) (.c (.P (.L 1)) (.c (.P (.L 8)) (.c (.P (.I .i64)) (.c (.P (.I .i64)) (.c (.P (.I .i64)) (.c (.Ar (j+0) 5) (.c (.P .S) (.c (.Ar (j+1) 5) (.c (.Ar (j+2) 5) (.c (.Ar (j+3) 4) (.c (.P .B) (.c (.P (.I .i64)) (.c (.P (.I .i64)) (.c (.P (.I .i64)) (.c (.P .S) (.c (.P (.L 1)) (.c (.P (.L 1)) (.c (.P .S) (.c (.P .S) (.c (.P .S) (.c (.P (.L 5)) (.c (.P (.I .i64)) (.c (.P (.I .i64)) (.c (.P (.I .i64)) (.c (.P (.I .i64)) (.c (.P (.L 5)) (.c (.P (.L 5)) (.c (.P (.L 4)) (.c (.P (.I .i64)) .n)))))))))))))))))))))))))))))))))
def Z9:((LD)×(LN)×(LD)×(Int)×(LD)×(LD)×(Int)×(Int)×(Int)×(Nat)×(LN)×(Nat)×(Nat)×(Nat)×(Bool)×(Int)×(Int)×(Int)×(LN)×(LD)×(LD)×(LN)×(LN)×(LN)×(LD)×(Int)×(Int)×(Int)×(Int)×(LD)×(LD)×(LD)×(Int)×Unit)->LD->LD->LD->LD->Xn:=fun(ct,(mn,(mp,(mr,(ml,(mc,(aT,(aM,(aP,(ln,(ky,(fn,(sn,(en,(dn,(oK,(vK,(vN,(vS,(vI,(vL,(tT,(tK,(me,(ar,(er,(oT,(oM,(oP,(ol,(of,(oe,(fu,_))))))))))))))))))))))))))))))))) ls fs st es=>⟨ct,mn,mp,mr,ml,mc,aT,aM,aP,ln,ky,fn,sn,en,dn,oK,vK,vN,vS,vI,vL,tT,tK,me,ar,er,oT,oM,oP,ol,of,oe,fu,ls,fs,st,es⟩
def Ç (c:Xn):((LD)×(LN)×(LD)×(Int)×(LD)×(LD)×(Int)×(Int)×(Int)×(Nat)×(LN)×(Nat)×(Nat)×(Nat)×(Bool)×(Int)×(Int)×(Int)×(LN)×(LD)×(LD)×(LN)×(LN)×(LN)×(LD)×(Int)×(Int)×(Int)×(Int)×(LD)×(LD)×(LD)×(Int)×Unit):=(c.ct,(c.mn,(c.mp,(c.mr,(c.ml,(c.mc,(c.aT,(c.aM,(c.aP,(c.ln,(c.ky,(c.fn,(c.sn,(c.en,(c.dn,(c.oK,(c.vK,(c.vN,(c.vS,(c.vI,(c.vL,(c.tT,(c.tK,(c.me,(c.ar,(c.er,(c.oT,(c.oM,(c.oP,(c.ol,(c.of,(c.oe,(c.fu,())))))))))))))))))))))))))))))))))
def r_Xn:Rd (List Ob) Xn:= .rm (.c (Uv 1)<| .c .Oa<| .c .Oa<| .c .Oa<| .c .Oa .n) (fun(b,ls,fs,st,es,_)=>Z9 b ls fs st es) (fun c=>(Ç c,c.ls,c.fs,c.st,c.es,()))
def r_X3:Rd (List Ob) (Xn×LD×LD):= .rm (.c (Uv 3) (.c .Of (.c .Of (.c .Oa (.c .Oa (.c .Oa (.c .Oa .n))))))) (fun(b,x,y,ls,fs,st,es,_)=>(Z9 b ls fs st es,x,y)) (fun p=>(Ç p.1,p.2.1,p.2.2,p.1.ls,p.1.fs,p.1.st,p.1.es,()))
def Pl (r:Int):D:= .p (.agg [.fn 235 [.ptr (.agg [.int .i64 r])],.fn 165 []])
def YR (b:Nat)(o:Ob)(kt:Int->R):R:=match o with
 | .mapd ks ws=>match ws.drop 31 with
  | .p (.agg [.fn f [.ptr (.agg [.int i r])],.fn g []])::_=>bif qK (.mapd ks (ws.set 31 (Pl 0))) (.tabO b 0)&&(Nat.beq f 235&&(Nat.beq g 165&&Nat.beq (kc i) (kc .i64)))then kt r else none
  |_=>none
 |_=>none
def WS {b:Nat}{o:Ob}{kt:Int->R}(h:∀r,o= .tabO b r->Le (kt r) Z):Le (YR b o kt) Z:=by
 unfold YR;split
 ·rename_i ks ws;split
  ·rename_i f i r g tl hd;cases hc:qK (.mapd ks (ws.set 31 (Pl 0))) (.tabO b 0)&&(Nat.beq f 235&&(Nat.beq g 165&&Nat.beq (kc i) (kc .i64)))with
   |false=>exact Le.no _
   |true=>
    refine h r ?_;simp only[lγ]at hc;obtain⟨h1,h2,h3,h4⟩:=hc;have e:=zh h1;simp only[Ob.tabO,Ob.mapd.injEq]at e;obtain⟨rfl,e⟩:=e;have hw:ws[31]?=some (Pl r):=by
     have:=congrArg List.head? hd;rw[List.head?_drop]at this;rw[this,lθ h2,lθ h3,Gf h4];rfl
    have e2:ws=(ws.set 31 (Pl 0)).set 31 (Pl r):=by
     apply List.ext_getElem?;intro k;simp only[List.set_set,List.getElem?_set];by_cases hk:31=k
     ·subst hk;obtain⟨q1,q2⟩:=List.getElem?_eq_some_iff.1 hw;rw[if_pos rfl,if_pos q1,hw]
     ·rw[if_neg hk]
    rw[e2,e];rfl
  ·exact Le.no _
 ·exact Le.no _
def Rd.Tb (b:Nat):Rd Go.Ab.Ob Int:=⟨fun r=> .tabO b r,YR b,fun _ _ _=>WS⟩
def r_Xs:Rd (List Ob) (Xn×Int):= .rm (.c (Uv 2) (.c (.Tb 6) (.c .Oa (.c .Oa (.c .Oa (.c .Oa (.u (.Ob (.u (.Bo 0 0) .n)) .n))))))) (fun(b,r,ls,fs,st,es,_)=>(Z9 b ls fs st es,r)) (fun p=>(Ç p.1,p.2,p.1.ls,p.1.fs,p.1.st,p.1.es,()))
def r_Xt:Rd (List Ob) (Xn×Int):= .rm (.c (Uv 1) (.c .Oa (.c .Oa (.c .Oa (.c .Oa (.c (.Tb 6) (.u (.Ob (.u (.Bo 0 0) .n)) .n))))))) (fun(b,ls,fs,st,es,r,_)=>(Z9 b ls fs st es,r)) (fun p=>(Ç p.1,p.1.ls,p.1.fs,p.1.st,p.1.es,p.2,()))
def Q3 (o:List Ob)(kt:Xn->R):R:=r_Xn.d o kt
def OU {o:List Ob}{kt:Xn->R}(h:∀c,o=c.hp 0->Le (kt c) Z):Le (Q3 o kt) Z:=r_Xn.le _ _ _ fun a q=>h a q
def SP (o:List Ob)(kt:Xn->LD->LD->R):R:=r_X3.d o fun p=>kt p.1 p.2.1 p.2.2
def WT {o:List Ob}{kt:Xn->LD->LD->R}(h:∀c x y,o=c.bx 3:: .fz x:: .fz y::c.rs->Le (kt c x y) Z):Le (SP o kt) Z:=r_X3.le _ _ _ fun a q=>h a.1 a.2.1 a.2.2 q
def ZX (o:List Ob)(kt:Xn->Int->R):R:=r_Xs.d o fun p=>kt p.1 p.2
variable {kt:Xn->Int->R}
def WU {o:List Ob}(h:∀c r,o=c.bx 2:: .tabO 6 r::(c.rs++[.box [.box 0 0]])->Le (kt c r) Z):Le (ZX o kt) Z:=r_Xs.le _ _ _ fun a q=>h a.1 a.2 q
def ZY (o:List Ob)(kt:Xn->Int->R):R:=r_Xt.d o fun p=>kt p.1 p.2
def WV {o:List Ob}(h:∀c r,o=c.hp 0++[.tabO 6 r,.box [.box 0 0]]->Le (kt c r) Z):Le (ZY o kt) Z:=r_Xt.le _ _ _ fun a q=>h a.1 a.2 q
def yY {b:Bool}{x y:R}(h:Le x Z)(g:Le y Z):Le (bif b then x else y) Z:=by cases b<;>assumption
def oQ (hi:List Ob)(v:D)(o:List Ob)(k:KV):R:=dP v fun x=>ba .i64 x fun e=>Q3 o fun c=>k (.p (.int .i64 e)) (c.hp 0)
def fp (hi:List Ob)(v:D)(o:List Ob)(k:KV):Le (oQ hi v o k) (k v o):=by
 unfold oQ;refine lj fun _ q=>?_;subst q
 refine bL fun _ q=>?_;subst q
 refine OU fun _ q=>?_;subst q
 exact Le.refl _
def WH (hi:List Ob)(v:D)(o:List Ob)(k:KV):R:=ff v fun r=>af r<|bif Nat.beq hi.length 7 then SP o fun c x y=>k (.tup []) (c.bx 3:: .fz x:: .fz y::c.rs)else Q3 o fun c=>k (.tup []) (c.hp 0)
def Sz (hi:List Ob)(v:D)(o:List Ob)(k:KV):Le (WH hi v o k) (k v o):=by
 unfold WH;refine SO fun _ q=>?_;subst q
 refine c6 fun q=>?_;subst q
 refine yY ?_ ?_
 ·refine WT fun _ _ _ q=>?_;subst q
  exact Le.refl _
 ·refine OU fun _ q=>?_;subst q
  exact Le.refl _
def WJ (hi:List Ob)(v:D)(o:List Ob)(k:KV):R:=dP v fun x=>ba .i64 x fun e=>ZX o fun c r=>k (.p (.int .i64 e)) (c.bx 2:: .tabO 6 r::(c.rs++[.box [.box 0 0]]))
def SB (hi:List Ob)(v:D)(o:List Ob)(k:KV):Le (WJ hi v o k) (k v o):=by
 unfold WJ;refine lj fun _ q=>?_;subst q
 refine bL fun _ q=>?_;subst q
 refine WU fun _ _ q=>?_;subst q
 exact Le.refl _
def WK (hi:List Ob)(v:D)(o:List Ob)(k:KV):R:=YP 5 v<|ZY o fun c r=>k (.map 5) (c.hp 0++[.tabO 6 r,.box [.box 0 0]])
def SC (hi:List Ob)(v:D)(o:List Ob)(k:KV):Le (WK hi v o k) (k v o):=by
 unfold WK;refine OQ fun q=>?_;subst q
 refine WV fun _ _ q=>?_;subst q
 exact Le.refl _
def WI (hi:List Ob)(v:D)(o:List Ob)(k:KV):R:=dP v fun x=>cG x fun s=>ab o fun a o=>ab o fun b o=>ab o fun c o=>ab o fun d o=>ab o fun e o=>af o<|k (.p s.e) [a,b,c,d,e]
def SA (hi:List Ob)(v:D)(o:List Ob)(k:KV):Le (WI hi v o k) (k v o):=by
 unfold WI;refine lj fun _ q=>?_;subst q
 refine qE fun _ q=>?_;subst q
 refine bD fun _ _ q=>?_;subst q
 refine bD fun _ _ q=>?_;subst q
 refine bD fun _ _ q=>?_;subst q
 refine bD fun _ _ q=>?_;subst q
 refine bD fun _ _ q=>?_;subst q
 refine c6 fun q=>?_;subst q
 exact Le.refl _
def WF (hi:List Ob)(v:D)(o:List Ob)(k:KV):R:=SM 1 0 v fun n=>cf hi o<|k (.el 1 n 0) hi
def Sw (hi:List Ob)(v:D)(o:List Ob)(k:KV):Le (WF hi v o k) (k v o):=by
 unfold WF;refine OO fun _ q=>?_;subst q
 refine Cu fun q=>?_;subst q
 exact Le.refl _
def WG (hi:List Ob)(v:D)(o:List Ob)(k:KV):R:=SM 2 0 v fun n=>cf hi o<|k (.el 2 n 0) hi
def Sx (hi:List Ob)(v:D)(o:List Ob)(k:KV):Le (WG hi v o k) (k v o):=by
 unfold WG;refine OO fun _ q=>?_;subst q
 refine Cu fun q=>?_;subst q
 exact Le.refl _
def Sr (hi:List Ob)(v:D)(o:List Ob)(k:KV):R:=bif hi.isEmpty then dF 0 5 v fun len=>ab o fun x t=>cO x fun es=>af t<|k (.arr 0 0 len 5) [.arr es]else dF 1 5 v fun len=>ab o fun x t=>cO x fun l=>ab t fun x t=>cO x fun es=>af t<|k (.arr 1 0 len 5) [.arr l,.arr es]
def H4 (hi:List Ob)(v:D)(o:List Ob)(k:KV):Le (Sr hi v o k) (k v o):=by
 unfold Sr;refine yY ?_ ?_
 ·refine mX fun _ q=>?_;subst q
  refine bD fun _ _ q=>?_;subst q
  refine lc fun _ q=>?_;subst q
  refine c6 fun q=>?_;subst q
  exact Le.refl _
 ·refine mX fun _ q=>?_;subst q
  refine bD fun _ _ q=>?_;subst q
  refine lc fun _ q=>?_;subst q
  refine bD fun _ _ q=>?_;subst q
  refine lc fun _ q=>?_;subst q
  refine c6 fun q=>?_;subst q
  exact Le.refl _
def Sq (hi:List Ob)(v:D)(o:List Ob)(k:KV):R:=dF 0 1 v fun len=>ab o fun x t=>cO x fun es=>af t<|k (.arr 0 0 len 1) [.arr es]
def H3 (hi:List Ob)(v:D)(o:List Ob)(k:KV):Le (Sq hi v o k) (k v o):=by
 unfold Sq;refine mX fun _ q=>?_;subst q
 refine bD fun _ _ q=>?_;subst q
 refine lc fun _ q=>?_;subst q
 refine c6 fun q=>?_;subst q
 exact Le.refl _
def WL (hi:List Ob)(v:D)(o:List Ob)(k:KV):R:=afe v fun l=>ab l fun d l=>dP d fun x=>ba .i64 x fun kd=>ab l fun d l=>dP d fun x=>ba .i64 x fun n=>ab l fun d l=>dP d fun x=>eR x fun s=>ab l fun d l=>dF 0 1 d fun a=>ab l fun d l=>dF 1 1 d fun b=>af l<|ab o fun x o=>cO x fun is=>ab o fun x o=>cO x fun ls=>af o<|k (.agg [.p (.int .i64 kd),.p (.int .i64 n),.p (.str s),.arr 0 0 a 1,.arr 1 0 b 1]) [.arr is,.arr ls]
def SD (hi:List Ob)(v:D)(o:List Ob)(k:KV):Le (WL hi v o k) (k v o):=by
 unfold WL;refine SK fun _ q=>?_;subst q
 refine bD fun _ _ q=>?_;subst q
 refine lj fun _ q=>?_;subst q
 refine bL fun _ q=>?_;subst q
 refine bD fun _ _ q=>?_;subst q
 refine lj fun _ q=>?_;subst q
 refine bL fun _ q=>?_;subst q
 refine bD fun _ _ q=>?_;subst q
 refine lj fun _ q=>?_;subst q
 refine jx fun _ q=>?_;subst q
 refine bD fun _ _ q=>?_;subst q
 refine mX fun _ q=>?_;subst q
 refine bD fun _ _ q=>?_;subst q
 refine mX fun _ q=>?_;subst q
 refine c6 fun q=>?_;subst q
 refine bD fun _ _ q=>?_;subst q
 refine lc fun _ q=>?_;subst q
 refine bD fun _ _ q=>?_;subst q
 refine lc fun _ q=>?_;subst q
 refine c6 fun q=>?_;subst q
 exact Le.refl _
def WD (hi:List Ob)(v:D)(o:List Ob)(k:KV):R:=dP v fun x=>cV 235 x fun l=>ab l fun c l=>af l<|af o<|k (.p (.fn 235 [c])) []
def Su (hi:List Ob)(v:D)(o:List Ob)(k:KV):Le (WD hi v o k) (k v o):=by
 unfold WD;refine lj fun _ q=>?_;subst q
 refine sC fun _ q=>?_;subst q
 refine bD fun _ _ q=>?_;subst q
 refine c6 fun q=>?_;subst q
 refine c6 fun q=>?_;subst q
 exact Le.refl _
def Ck (hi:List Ob)(v:D)(o:List Ob)(k:KV):R:=dP v fun x=>bV x fun l=>ab l fun a l=>ab l fun b l=>af l<|af o<|k (.p (.agg [a,b])) []
def mV (hi:List Ob)(v:D)(o:List Ob)(k:KV):Le (Ck hi v o k) (k v o):=by
 unfold Ck;refine lj fun _ q=>?_;subst q
 refine y7 fun _ q=>?_;subst q
 refine bD fun _ _ q=>?_;subst q
 refine bD fun _ _ q=>?_;subst q
 refine c6 fun q=>?_;subst q
 refine c6 fun q=>?_;subst q
 exact Le.refl _
def WE (hi:List Ob)(v:D)(o:List Ob)(k:KV):R:=dP v fun x=>bV x fun l=>ab l fun a l=>ab l fun b l=>af l<|af o<|cV 235 a fun l=>ab l fun c l=>af l<|cV 232 b fun l=>ab l fun d l=>af l<|k (.p (.agg [.fn 235 [c],.fn 232 [d]])) []
def Sv (hi:List Ob)(v:D)(o:List Ob)(k:KV):Le (WE hi v o k) (k v o):=by
 unfold WE;refine lj fun _ q=>?_;subst q
 refine y7 fun _ q=>?_;subst q
 refine bD fun _ _ q=>?_;subst q
 refine bD fun _ _ q=>?_;subst q
 refine c6 fun q=>?_;subst q
 refine c6 fun q=>?_;subst q
 refine sC fun _ q=>?_;subst q
 refine bD fun _ _ q=>?_;subst q
 refine c6 fun q=>?_;subst q
 refine sC fun _ q=>?_;subst q
 refine bD fun _ _ q=>?_;subst q
 refine c6 fun q=>?_;subst q
 exact Le.refl _
def WC (hi:List Ob)(v:D)(o:List Ob)(k:KV):R:=bif hi.isEmpty then dP v fun x=>hM 2 x fun l=>af o<|k (.p (.slice 2 l)) []else dP v fun x=>hM 2 x fun l=>ab o fun x t=>Á x fun es=>af t<|k (.p (.slice 2 l)) [.fz es]
def Ss (hi:List Ob)(v:D)(o:List Ob)(k:KV):Le (WC hi v o k) (k v o):=by
 unfold WC;refine yY ?_ ?_
 ·refine lj fun _ q=>?_;subst q
  refine FR fun _ q=>?_;subst q
  refine c6 fun q=>?_;subst q
  exact Le.refl _
 ·refine lj fun _ q=>?_;subst q
  refine FR fun _ q=>?_;subst q
  refine bD fun _ _ q=>?_;subst q
  refine Qm fun _ q=>?_;subst q
  refine c6 fun q=>?_;subst q
  exact Le.refl _
structure Tn where
 ct:LD
 ky:LN
 (aT aM aP:Int)
 (ml fs:LD)
 (sn en:Nat)
 (st es:LD)
def Tn.bx (j:Nat)(c:Tn):Ob:= .box [.p (.slice 3 c.ct),.p (.str c.ky),.p (.int .i64 c.aT),.p (.int .i64 c.aM),.p (.int .i64 c.aP),.p (.slice 5 c.ml),.p (.slice 5 c.fs),.arr (j+0) 0 c.sn 5,.arr (j+1) 0 c.en 4]
def Tn.rs (c:Tn):List Ob:=[.arr c.st,.arr c.es]
def Tn.hp (k:Nat)(c:Tn):List Ob:=c.bx (k+1)::c.rs
structure Tl where
 ct:LD
 ky:LN
 (aT aM aP:Int)
 mn:Nat
 fs:LD
 (sn en:Nat)
 (ml st es:LD)
def Tl.bx (j:Nat)(c:Tl):Ob:= .box [.p (.slice 3 c.ct),.p (.str c.ky),.p (.int .i64 c.aT),.p (.int .i64 c.aM),.p (.int .i64 c.aP),.arr (j+0) 0 c.mn 5,.p (.slice 5 c.fs),.arr (j+1) 0 c.sn 5,.arr (j+2) 0 c.en 4]
def Tl.rs (c:Tl):List Ob:=[.arr c.ml,.arr c.st,.arr c.es]
def Tl.hp (k:Nat)(c:Tl):List Ob:=c.bx (k+1)::c.rs
structure Tf where
 ct:LD
 ky:LN
 (aT aM aP:Int)
 ml:LD
 (fn sn en:Nat)
 (fs st es:LD)
def Tf.bx (j:Nat)(c:Tf):Ob:= .box [.p (.slice 3 c.ct),.p (.str c.ky),.p (.int .i64 c.aT),.p (.int .i64 c.aM),.p (.int .i64 c.aP),.p (.slice 5 c.ml),.arr (j+0) 0 c.fn 5,.arr (j+1) 0 c.sn 5,.arr (j+2) 0 c.en 4]
def Tf.rs (c:Tf):List Ob:=[.arr c.fs,.arr c.st,.arr c.es]
def Tf.hp (k:Nat)(c:Tf):List Ob:=c.bx (k+1)::c.rs
def agT (hi:List Ob):Bool:=match hi with| .box [_,_,_,_,_,.arr _ _ _ _,_,_,_]::_=>true|_=>false
def agP:Rd Ob ((LD)×(LN)×(Int)×(Int)×(Int)×(LD)×(LD)×(Nat)×(Nat)×Unit):= .Ob (.c (.P (.L 3)) (.c (.P .S) (.c (.P (.I .i64)) (.c (.P (.I .i64)) (.c (.P (.I .i64)) (.c (.P (.L 5)) (.c (.P (.L 5)) (.c (.Ar (1+0) 5) (.c (.Ar (1+1) 4) .n)))))))))
def agW:((LD)×(LN)×(Int)×(Int)×(Int)×(LD)×(LD)×(Nat)×(Nat)×Unit)->LD->LD->Tn:=fun(ct,(ky,(aT,(aM,(aP,(ml,(fs,(sn,(en,_))))))))) st es=>⟨ct,ky,aT,aM,aP,ml,fs,sn,en,st,es⟩
def agZ (c:Tn):((LD)×(LN)×(Int)×(Int)×(Int)×(LD)×(LD)×(Nat)×(Nat)×Unit):=(c.ct,(c.ky,(c.aT,(c.aM,(c.aP,(c.ml,(c.fs,(c.sn,(c.en,())))))))))
def r_Tn:Rd (List Ob) Tn:= .rm (.c agP (.c .Oa<| .c .Oa .n)) (fun(b,st,es,_)=>agW b st es) (fun c=>(agZ c,c.st,c.es,()))
def dTn (o:List Ob)(kt:Tn->R):R:=r_Tn.d o kt
def acy {o:List Ob}{kt:Tn->R}(h:∀c,o=c.hp 0->Le (kt c) Z):Le (dTn o kt) Z:=r_Tn.le _ _ _ fun a q=>h a q
def agO:Rd Ob ((LD)×(LN)×(Int)×(Int)×(Int)×(Nat)×(LD)×(Nat)×(Nat)×Unit):= .Ob (.c (.P (.L 3)) (.c (.P .S) (.c (.P (.I .i64)) (.c (.P (.I .i64)) (.c (.P (.I .i64)) (.c (.Ar (1+0) 5) (.c (.P (.L 5)) (.c (.Ar (1+1) 5) (.c (.Ar (1+2) 4) .n)))))))))
def agV:((LD)×(LN)×(Int)×(Int)×(Int)×(Nat)×(LD)×(Nat)×(Nat)×Unit)->LD->LD->LD->Tl:=fun(ct,(ky,(aT,(aM,(aP,(mn,(fs,(sn,(en,_))))))))) ml st es=>⟨ct,ky,aT,aM,aP,mn,fs,sn,en,ml,st,es⟩
def agY (c:Tl):((LD)×(LN)×(Int)×(Int)×(Int)×(Nat)×(LD)×(Nat)×(Nat)×Unit):=(c.ct,(c.ky,(c.aT,(c.aM,(c.aP,(c.mn,(c.fs,(c.sn,(c.en,())))))))))
def r_Tl:Rd (List Ob) Tl:= .rm (.c agO (.c .Oa<| .c .Oa<| .c .Oa .n)) (fun(b,ml,st,es,_)=>agV b ml st es) (fun c=>(agY c,c.ml,c.st,c.es,()))
def dTl (o:List Ob)(kt:Tl->R):R:=r_Tl.d o kt
def agr {o:List Ob}{kt:Tl->R}(h:∀c,o=c.hp 0->Le (kt c) Z):Le (dTl o kt) Z:=r_Tl.le _ _ _ fun a q=>h a q
def agN:Rd Ob ((LD)×(LN)×(Int)×(Int)×(Int)×(LD)×(Nat)×(Nat)×(Nat)×Unit):= .Ob (.c (.P (.L 3)) (.c (.P .S) (.c (.P (.I .i64)) (.c (.P (.I .i64)) (.c (.P (.I .i64)) (.c (.P (.L 5)) (.c (.Ar (1+0) 5) (.c (.Ar (1+1) 5) (.c (.Ar (1+2) 4) .n)))))))))
def agU:((LD)×(LN)×(Int)×(Int)×(Int)×(LD)×(Nat)×(Nat)×(Nat)×Unit)->LD->LD->LD->Tf:=fun(ct,(ky,(aT,(aM,(aP,(ml,(fn,(sn,(en,_))))))))) fs st es=>⟨ct,ky,aT,aM,aP,ml,fn,sn,en,fs,st,es⟩
def agX (c:Tf):((LD)×(LN)×(Int)×(Int)×(Int)×(LD)×(Nat)×(Nat)×(Nat)×Unit):=(c.ct,(c.ky,(c.aT,(c.aM,(c.aP,(c.ml,(c.fn,(c.sn,(c.en,())))))))))
def r_Tf:Rd (List Ob) Tf:= .rm (.c agN (.c .Oa<| .c .Oa<| .c .Oa .n)) (fun(b,fs,st,es,_)=>agU b fs st es) (fun c=>(agX c,c.fs,c.st,c.es,()))
def dTf (o:List Ob)(kt:Tf->R):R:=r_Tf.d o kt
def agq {o:List Ob}{kt:Tf->R}(h:∀c,o=c.hp 0->Le (kt c) Z):Le (dTf o kt) Z:=r_Tf.le _ _ _ fun a q=>h a q
def ago (hi:List Ob)(v:D)(o:List Ob)(k:KV):R:=dP v fun x=>ao x fun v=>bif Nat.beq hi.length 3 then dTn o fun c=>k (.p v.e) (c.hp 0)else bif agT hi then dTl o fun c=>k (.p v.e) (c.hp 0)else dTf o fun c=>k (.p v.e) (c.hp 0)
def af1 (hi:List Ob)(v:D)(o:List Ob)(k:KV):Le (ago hi v o k) (k v o):=by
 unfold ago;refine lj fun _ q=>?_;subst q
 refine cm fun _ q=>?_;subst q
 refine yY ?_ ?_
 ·refine acy fun _ q=>?_;subst q
  exact Le.refl _
 ·refine yY ?_ ?_
  ·refine agr fun _ q=>?_;subst q
   exact Le.refl _
  ·refine agq fun _ q=>?_;subst q
   exact Le.refl _
def afy (hi:List Ob)(v:D)(o:List Ob)(k:KV):R:=ff v fun r=>af r<|dTn o fun c=>k (.tup []) (c.hp 0)
def acx (hi:List Ob)(v:D)(o:List Ob)(k:KV):Le (afy hi v o k) (k v o):=by
 unfold afy;refine SO fun _ q=>?_;subst q
 refine c6 fun q=>?_;subst q
 refine acy fun _ q=>?_;subst q
 exact Le.refl _
def afZ (hi:List Ob)(v:D)(o:List Ob)(k:KV):R:=dP v fun x=>ba .i64 x fun e=>dTn o fun c=>k (.p (.int .i64 e)) (c.hp 0)
def aeJ (hi:List Ob)(v:D)(o:List Ob)(k:KV):Le (afZ hi v o k) (k v o):=by
 unfold afZ;refine lj fun _ q=>?_;subst q
 refine bL fun _ q=>?_;subst q
 refine acy fun _ q=>?_;subst q
 exact Le.refl _
def agm (hi:List Ob)(v:D)(o:List Ob)(k:KV):R:=ff v fun r=>ab r fun d r=>dP d fun x=>aaz x fun a=>ab r fun d r=>dP d fun x=>ba .i64 x fun e=>af r<|dTn o fun c=>k (.tup [.p a.e,.p (.int .i64 e)]) (c.hp 0)
def afY (hi:List Ob)(v:D)(o:List Ob)(k:KV):Le (agm hi v o k) (k v o):=by
 unfold agm;refine SO fun _ q=>?_;subst q
 refine bD fun _ _ q=>?_;subst q
 refine lj fun _ q=>?_;subst q
 refine aaX fun _ q=>?_;subst q
 refine bD fun _ _ q=>?_;subst q
 refine lj fun _ q=>?_;subst q
 refine bL fun _ q=>?_;subst q
 refine c6 fun q=>?_;subst q
 refine acy fun _ q=>?_;subst q
 exact Le.refl _
def agn (hi:List Ob)(v:D)(o:List Ob)(k:KV):R:=dP v fun x=>cG x fun s=>ab o fun a o=>ab o fun b o=>ab o fun c o=>af o<|k (.p s.e) [a,b,c]
def af0 (hi:List Ob)(v:D)(o:List Ob)(k:KV):Le (agn hi v o k) (k v o):=by
 unfold agn;refine lj fun _ q=>?_;subst q
 refine qE fun _ q=>?_;subst q
 refine bD fun _ _ q=>?_;subst q
 refine bD fun _ _ q=>?_;subst q
 refine bD fun _ _ q=>?_;subst q
 refine c6 fun q=>?_;subst q
 exact Le.refl _
def aC {b:Bool}{x y:R}(h:Le x Z)(g:Le y Z):Le (bif b then x else y) Z:=by cases b<;>assumption
def Ł {α:Type}(r:Rd D α)(hi:List Ob)(v:D)(o:List Ob)(k:KV):R:=r.d v fun a=>ł hi o fun o=>k (r.e a) o
def ķ {α:Type}{r:Rd D α}(hi:List Ob)(v:D)(o:List Ob)(k:KV):Le (Ł r hi v o k) (k v o):=r.le v _ _ fun a q=>by subst q;exact ŀ hi o (Le.refl _)
def Ō {α:Type}(r:Rd D α)(hi:List Ob)(v:D)(o:List Ob)(k:KV):R:=r.d v fun a=>cf hi o<|k (r.e a) hi
def Ľ {α:Type}{r:Rd D α}(hi:List Ob)(v:D)(o:List Ob)(k:KV):Le (Ō r hi v o k) (k v o):=r.le v _ _ fun a q=>by subst q;exact Cu fun q=>by subst q;exact Le.refl _
def H5 (f:Nat)(hi:List Ob)(v:D)(o:List Ob)(k:KV):R:=bif Nat.beq f 55 then WL hi v o k else bif Nat.beq f 39 then Sr hi v o k else bif Nat.beq f 84 then Sr hi v o k else bif Nat.beq f 76 then Sq hi v o k else bif Nat.beq f 77 then Sq hi v o k else bif Nat.beq f 56 then WH hi v o k else bif Nat.beq f 96 then WJ hi v o k else bif Nat.beq f 95 then WK hi v o k else bif Nat.beq f 57 then WI hi v o k else bif Nat.beq f 153 then WF hi v o k else bif Nat.beq f 154 then WG hi v o k else bif Nat.beq f 228 then oQ hi v o k else bif Nat.beq f 164 then oQ hi v o k else bif Nat.beq f 166 then oQ hi v o k else bif Nat.beq f 225 then oQ hi v o k else bif Nat.beq f 226 then oQ hi v o k else bif Nat.beq f 227 then oQ hi v o k else bif Nat.beq f 230 then oQ hi v o k else bif Nat.beq f 232 then oQ hi v o k else bif Nat.beq f 236 then oQ hi v o k else bif Nat.beq f 160 then oQ hi v o k else bif Nat.beq f 163 then oQ hi v o k else bif Nat.beq f 165 then oQ hi v o k else bif Nat.beq f 147 then Ck hi v o k else bif Nat.beq f 152 then Ck hi v o k else bif Nat.beq f 155 then Ck hi v o k else bif Nat.beq f 156 then Ck hi v o k else bif Nat.beq f 158 then Ck hi v o k else bif Nat.beq f 167 then Ck hi v o k else bif Nat.beq f 157 then WE hi v o k else bif Nat.beq f 159 then WD hi v o k else bif Nat.beq f 245 then WC hi v o k else bif Nat.beq f 97 then ago hi v o k else bif Nat.beq f 58 then afy hi v o k else bif Nat.beq f 170 then afy hi v o k else bif Nat.beq f 171 then afy hi v o k else bif Nat.beq f 100 then afZ hi v o k else bif Nat.beq f 99 then afZ hi v o k else bif Nat.beq f 98 then agm hi v o k else bif Nat.beq f 59 then agn hi v o k else bif KO f [9,10,11,16,17,18,19,20,21,28,35,38,43,47,48,50,53,54,63,85,87,88,89,93,94,105,106,107,141,142,178,182,183,184,187,198,199,220,221,222,223,224,241,243,244,255,256,295,299]then Ł (.P .B) hi v o k else bif KO f [12,13]then Ł (.Tu (.c (.P r_api_Machine) (.c (.P (.I .i64)) .n))) hi v o k else bif KO f [14,15,36,37,41,42]then Ł (.Tu (.c (.P (.I .i64)) (.c (.P .B) .n))) hi v o k else bif KO f [22,23]then Ł (.P (.L 5)) hi v o k else bif KO f [29,40,44,144,195,197,234,235,300]then Ł (.P (.I .i64)) hi v o k else bif KO f [45]then Ł (.Tu (.c (.P r_api_CodeMethod) (.c (.P .B) .n))) hi v o k else bif KO f [46,91,146,246,247,303]then Ł (.P (.L 1)) hi v o k else bif KO f [49,64]then Ł (.Tu (.c (.P (.L 3)) (.c (.P .B) .n))) hi v o k else bif KO f [51]then Ł (.Tu (.c (.P r_api_CodeType) (.c (.P .B) .n))) hi v o k else bif KO f [52,80,82,83,102,104,110,145,181,185,186,240]then Ō (.P .B) hi v o k else bif KO f [79,81]then Ō (.Tu (.c (.P (.I .i64)) (.c (.P .B) .n))) hi v o k else bif KO f [86]then Ł (.P (.L 3)) hi v o k else bif KO f [90]then Ł (.P r_actorgridref20_Effect) hi v o k else bif KO f [92]then Ł (.Tu (.c (.P r_actorgridref20_Point) (.c (.P .B) (.c (.P .B) .n)))) hi v o k else bif KO f [103,179,180]then Ō (.P .S) hi v o k else bif KO f [108,109]then Ł (.Tu (.c (.P (.L 1)) (.c (.P .B) .n))) hi v o k else bif KO f [139,140,161,239,242,302]then Ō (.P (.I .i64)) hi v o k else bif KO f [143]then Ō (.P r_actorgridref20_Effect) hi v o k else bif KO f [148,149,150,151]then Ō (.P r_api_Value) hi v o k else bif KO f [162]then Ō (.Tu (.c (.P r_api_CodeType) (.c (.P r_api_CodeMethod) .n))) hi v o k else bif KO f [188]then Ł (.P (.L 2)) hi v o k else bif KO f [229,231,233]then Ł (.Tu (.c (.P r_api_Value) (.c (.P (.I .i64)) .n))) hi v o k else bif KO f [237]then Ł (.Tu (.c (.P r_api_Effect) (.c (.P (.I .i64)) .n))) hi v o k else bif KO f [296,298]then Ł (.P r_api_Value) hi v o k else bif KO f [297]then Ł (.Tu (.c (.P (.I .i64)) (.c (.P (.I .i64)) .n))) hi v o k else bif KO f [301]then Ł (.P .S) hi v o k else bif KO f [348,371]then Ł (.Tu (.c (.P (.I .u64)) (.c (.P (.I .u64)) .n))) hi v o k else k v o
def IJ (z:D)(x:Da)(k:Da->R):R:=match z with| .p (.int i _)=>ba i x fun n=>k (.int i n)| .p (.bool _)=>aH x fun b=>k (.bool b)| .p (.agg cs)=>k x|_=>k x
def ZZ (z:Nat)(x:Da)(k:Da->R):R:=bif Nat.beq z 8 then bu x fun t=>k t.e else bif Nat.beq z 3 then aF x fun t=>k t.e else bif Nat.beq z 7 then bE x fun t=>k t.e else bif Nat.beq z 5 then ao x fun t=>k t.e else bif Nat.beq z 4 then bP x fun t=>k t.e else bif Nat.beq z 2 then bp x fun t=>k t.e else bif Nat.beq z 2001 then ba .i64 x fun i=>k (.int .i64 i)else bif Nat.beq z 1 then ba .i64 x fun i=>k (.int .i64 i)else bif Nat.beq z 0 then ba .i64 x fun i=>k (.int .i64 i)else k x
def Z0 (z:Nat)(x:Da)(k:Da->R):R:=bif Nat.beq z 8 then bu x fun t=>k t.e else bif Nat.beq z 3 then aF x fun t=>k t.e else bif Nat.beq z 7 then bE x fun t=>k t.e else bif Nat.beq z 5 then ao x fun t=>k t.e else bif Nat.beq z 4 then bP x fun t=>k t.e else bif Nat.beq z 2 then bp x fun t=>k t.e else bif Nat.beq z 2001 then eR x fun s=>k (.str s)else bif Nat.beq z 1 then eR x fun s=>k (.str s)else bif Nat.beq z 0 then eR x fun s=>k (.str s)else k x
def ß (z:Nat)(x:Da)(k:Da->R):R:=bif Nat.beq z 8 then bu x fun t=>k t.e else bif Nat.beq z 3 then aF x fun t=>k t.e else bif Nat.beq z 7 then bE x fun t=>k t.e else bif Nat.beq z 5 then aN x fun t=>k t.e else bif Nat.beq z 4 then bP x fun t=>k t.e else bif Nat.beq z 2 then bp x fun t=>k t.e else bif Nat.beq z 2001 then ba .i64 x fun i=>k (.int .i64 i)else bif Nat.beq z 1 then ba .i64 x fun i=>k (.int .i64 i)else bif Nat.beq z 0 then ba .i64 x fun i=>k (.int .i64 i)else k x
def Z1 (z:Nat)(x:Da)(k:Da->R):R:=bif Nat.beq z 8 then bu x fun t=>k t.e else bif Nat.beq z 3 then aF x fun t=>k t.e else bif Nat.beq z 7 then bE x fun t=>k t.e else bif Nat.beq z 5 then ao x fun t=>k t.e else bif Nat.beq z 4 then bP x fun t=>k t.e else bif Nat.beq z 2 then bp x fun t=>k t.e else bif Nat.beq z 1003 then aK x fun t=>k t.e else bif Nat.beq z 3001 then aK x fun t=>k t.e else bif Nat.beq z 2001 then aK x fun t=>k t.e else bif Nat.beq z 1001 then iL (PO x) (aK x fun t=>k t.e) (ba .i64 x fun i=>k (.int .i64 i))else bif Nat.beq z 2001 then ba .i64 x fun i=>k (.int .i64 i)else bif Nat.beq z 1 then ba .i64 x fun i=>k (.int .i64 i)else bif Nat.beq z 0 then ba .i64 x fun i=>k (.int .i64 i)else k x
def â (z:Nat)(x:Da)(k:Da->R):R:=bif Nat.beq z 8 then bu x fun t=>k t.e else bif Nat.beq z 3 then iL (PQ x) (aK x fun t=>k t.e) (aF x fun t=>k t.e)else bif Nat.beq z 7 then bE x fun t=>k t.e else bif Nat.beq z 5 then aN x fun t=>k t.e else bif Nat.beq z 4 then bP x fun t=>k t.e else bif Nat.beq z 2 then bp x fun t=>k t.e else bif Nat.beq z 2001 then ba .i64 x fun i=>k (.int .i64 i)else bif Nat.beq z 1 then ba .i64 x fun i=>k (.int .i64 i)else bif Nat.beq z 0 then ba .i64 x fun i=>k (.int .i64 i)else k x
def á (z:Nat)(x:Da)(k:Da->R):R:=bif Nat.beq z 8 then bu x fun t=>k t.e else bif Nat.beq z 3 then aF x fun t=>k t.e else bif Nat.beq z 7 then bE x fun t=>k t.e else bif Nat.beq z 5 then ao x fun t=>k t.e else bif Nat.beq z 4 then bP x fun t=>k t.e else bif Nat.beq z 2 then bp x fun t=>k t.e else bif Nat.beq z 2001 then iL (zB x) (aH x fun b=>k (.bool b)) (ba .i64 x fun i=>k (.int .i64 i))else bif Nat.beq z 1 then iL (zB x) (aH x fun b=>k (.bool b)) (ba .i64 x fun i=>k (.int .i64 i))else bif Nat.beq z 0 then iL (zB x) (aH x fun b=>k (.bool b)) (ba .i64 x fun i=>k (.int .i64 i))else k x
def Z2 (z:Nat)(x:Da)(k:Da->R):R:=bif Nat.beq z 8 then bu x fun t=>k t.e else bif Nat.beq z 3 then aF x fun t=>k t.e else bif Nat.beq z 7 then bE x fun t=>k t.e else bif Nat.beq z 5 then ao x fun t=>k t.e else bif Nat.beq z 4 then bP x fun t=>k t.e else bif Nat.beq z 2 then bp x fun t=>k t.e else bif Nat.beq z 1005 then ao x fun t=>k t.e else bif Nat.beq z 4001 then ao x fun t=>k t.e else bif Nat.beq z 5001 then ao x fun t=>k t.e else bif Nat.beq z 2001 then ba .i64 x fun i=>k (.int .i64 i)else bif Nat.beq z 1 then ba .i64 x fun i=>k (.int .i64 i)else bif Nat.beq z 0 then ba .i64 x fun i=>k (.int .i64 i)else k x
def elP (z:Nat)(x:Da)(k:Da->R):R:=bif Nat.beq z 8 then bu x fun t=>k t.e else bif Nat.beq z 3 then aF x fun t=>k t.e else bif Nat.beq z 7 then bE x fun t=>k t.e else bif Nat.beq z 5 then ao x fun t=>k t.e else bif Nat.beq z 4 then bP x fun t=>k t.e else bif Nat.beq z 2 then bp x fun t=>k t.e else bif Nat.beq z 1003 then ea x fun t=>k t.e else bif Nat.beq z 2001 then ea x fun t=>k t.e else bif Nat.beq z 3001 then ea x fun t=>k t.e else bif Nat.beq z 1001 then iL (PO x) (ea x fun t=>k t.e) (aH x fun b=>k (.bool b))else bif Nat.beq z 2001 then iL (zB x) (aH x fun b=>k (.bool b)) (ba .i64 x fun i=>k (.int .i64 i))else bif Nat.beq z 1 then iL (zB x) (aH x fun b=>k (.bool b)) (ba .i64 x fun i=>k (.int .i64 i))else bif Nat.beq z 0 then iL (zB x) (aH x fun b=>k (.bool b)) (ba .i64 x fun i=>k (.int .i64 i))else k x
def elQ (z:Nat)(x:Da)(k:Da->R):R:=bif Nat.beq z 8 then bu x fun t=>k t.e else bif Nat.beq z 3 then ea x fun t=>k t.e else bif Nat.beq z 7 then bE x fun t=>k t.e else bif Nat.beq z 5 then ao x fun t=>k t.e else bif Nat.beq z 4 then bP x fun t=>k t.e else bif Nat.beq z 2 then bp x fun t=>k t.e else bif Nat.beq z 2001 then iL (zB x) (aH x fun b=>k (.bool b)) (ba .i64 x fun i=>k (.int .i64 i))else bif Nat.beq z 1 then iL (zB x) (aH x fun b=>k (.bool b)) (ba .i64 x fun i=>k (.int .i64 i))else bif Nat.beq z 0 then iL (zB x) (aH x fun b=>k (.bool b)) (ba .i64 x fun i=>k (.int .i64 i))else k x
def ģ:gI:=⟨ZZ,H5,IJ,false,true,false⟩
def Ø:gI:=⟨ZZ,H5,IJ,false,false,false⟩
def ĥ:gI:=⟨Z0,H5,IJ,false,true,false⟩
def Ù:gI:=⟨Z0,H5,IJ,false,false,false⟩
def Ĥ:gI:=⟨ß,H5,IJ,false,true,false⟩
def Û:gI:=⟨Z1,H5,IJ,false,false,true⟩
def Ú:gI:=⟨Z1,H5,IJ,true,true,true⟩
def ħ:gI:=⟨â,H5,IJ,false,true,false⟩
def Ħ:gI:=⟨á,H5,IJ,false,true,false⟩
def Ü:gI:=⟨Z2,H5,IJ,false,false,true⟩
def dcP:gI:=⟨elP,H5,IJ,false,true,true⟩
def dcQ:gI:=⟨elQ,H5,IJ,false,true,false⟩
def Pg (z:Nat)(x:Da)(k:Da->R):Le (ZZ z x k) (k x):=by
 unfold ZZ;exact aC (cJ fun _ q=>by subst q;exact Le.refl _)<|aC (bT fun _ q=>by subst q;exact Le.refl _)<|aC (cI fun _ q=>by subst q;exact Le.refl _)<|aC (cm fun _ q=>by subst q;exact Le.refl _)<|aC (cq fun _ q=>by subst q;exact Le.refl _)<|aC (bF fun _ q=>by subst q;exact Le.refl _)<|aC (bL fun _ q=>by subst q;exact Le.refl _)<|aC (bL fun _ q=>by subst q;exact Le.refl _)<|aC (bL fun _ q=>by subst q;exact Le.refl _)<|Le.refl _
def Ph (z:Nat)(x:Da)(k:Da->R):Le (Z0 z x k) (k x):=by
 unfold Z0;exact aC (cJ fun _ q=>by subst q;exact Le.refl _)<|aC (bT fun _ q=>by subst q;exact Le.refl _)<|aC (cI fun _ q=>by subst q;exact Le.refl _)<|aC (cm fun _ q=>by subst q;exact Le.refl _)<|aC (cq fun _ q=>by subst q;exact Le.refl _)<|aC (bF fun _ q=>by subst q;exact Le.refl _)<|aC (jx fun _ q=>by subst q;exact Le.refl _)<|aC (jx fun _ q=>by subst q;exact Le.refl _)<|aC (jx fun _ q=>by subst q;exact Le.refl _)<|Le.refl _
def W6 (z:Nat)(x:Da)(k:Da->R):Le (ß z x k) (k x):=by
 unfold ß;exact aC (cJ fun _ q=>by subst q;exact Le.refl _)<|aC (bT fun _ q=>by subst q;exact Le.refl _)<|aC (cI fun _ q=>by subst q;exact Le.refl _)<|aC (ik fun _ q=>by subst q;exact Le.refl _)<|aC (cq fun _ q=>by subst q;exact Le.refl _)<|aC (bF fun _ q=>by subst q;exact Le.refl _)<|aC (bL fun _ q=>by subst q;exact Le.refl _)<|aC (bL fun _ q=>by subst q;exact Le.refl _)<|aC (bL fun _ q=>by subst q;exact Le.refl _)<|Le.refl _
def Pi (z:Nat)(x:Da)(k:Da->R):Le (Z1 z x k) (k x):=by
 unfold Z1;exact aC (cJ fun _ q=>by subst q;exact Le.refl _)<|aC (bT fun _ q=>by subst q;exact Le.refl _)<|aC (cI fun _ q=>by subst q;exact Le.refl _)<|aC (cm fun _ q=>by subst q;exact Le.refl _)<|aC (cq fun _ q=>by subst q;exact Le.refl _)<|aC (bF fun _ q=>by subst q;exact Le.refl _)<|aC (cS fun _ q=>by subst q;exact Le.refl _)<|aC (cS fun _ q=>by subst q;exact Le.refl _)<|aC (cS fun _ q=>by subst q;exact Le.refl _)<|aC (Le.two (fun _=>cS fun _ q=>by subst q;exact Le.refl _) (fun _=>bL fun _ q=>by subst q;exact Le.refl _))<|aC (bL fun _ q=>by subst q;exact Le.refl _)<|aC (bL fun _ q=>by subst q;exact Le.refl _)<|aC (bL fun _ q=>by subst q;exact Le.refl _)<|Le.refl _
def W9 (z:Nat)(x:Da)(k:Da->R):Le (â z x k) (k x):=by
 unfold â;exact aC (cJ fun _ q=>by subst q;exact Le.refl _)<|aC (Le.two (fun _=>cS fun _ q=>by subst q;exact Le.refl _) (fun _=>bT fun _ q=>by subst q;exact Le.refl _))<|aC (cI fun _ q=>by subst q;exact Le.refl _)<|aC (ik fun _ q=>by subst q;exact Le.refl _)<|aC (cq fun _ q=>by subst q;exact Le.refl _)<|aC (bF fun _ q=>by subst q;exact Le.refl _)<|aC (bL fun _ q=>by subst q;exact Le.refl _)<|aC (bL fun _ q=>by subst q;exact Le.refl _)<|aC (bL fun _ q=>by subst q;exact Le.refl _)<|Le.refl _
def W8 (z:Nat)(x:Da)(k:Da->R):Le (á z x k) (k x):=by
 unfold á;exact aC (cJ fun _ q=>by subst q;exact Le.refl _)<|aC (bT fun _ q=>by subst q;exact Le.refl _)<|aC (cI fun _ q=>by subst q;exact Le.refl _)<|aC (cm fun _ q=>by subst q;exact Le.refl _)<|aC (cq fun _ q=>by subst q;exact Le.refl _)<|aC (bF fun _ q=>by subst q;exact Le.refl _)<|aC (Le.two (fun _=>lU fun _ q=>by subst q;exact Le.refl _) (fun _=>bL fun _ q=>by subst q;exact Le.refl _))<|aC (Le.two (fun _=>lU fun _ q=>by subst q;exact Le.refl _) (fun _=>bL fun _ q=>by subst q;exact Le.refl _))<|aC (Le.two (fun _=>lU fun _ q=>by subst q;exact Le.refl _) (fun _=>bL fun _ q=>by subst q;exact Le.refl _))<|Le.refl _
def Pj (z:Nat)(x:Da)(k:Da->R):Le (Z2 z x k) (k x):=by
 unfold Z2;exact aC (cJ fun _ q=>by subst q;exact Le.refl _)<|aC (bT fun _ q=>by subst q;exact Le.refl _)<|aC (cI fun _ q=>by subst q;exact Le.refl _)<|aC (cm fun _ q=>by subst q;exact Le.refl _)<|aC (cq fun _ q=>by subst q;exact Le.refl _)<|aC (bF fun _ q=>by subst q;exact Le.refl _)<|aC (cm fun _ q=>by subst q;exact Le.refl _)<|aC (cm fun _ q=>by subst q;exact Le.refl _)<|aC (cm fun _ q=>by subst q;exact Le.refl _)<|aC (bL fun _ q=>by subst q;exact Le.refl _)<|aC (bL fun _ q=>by subst q;exact Le.refl _)<|aC (bL fun _ q=>by subst q;exact Le.refl _)<|Le.refl _
def agt (z:Nat)(x:Da)(k:Da->R):Le (elP z x k) (k x):=by
 unfold elP;exact aC (cJ fun _ q=>by subst q;exact Le.refl _)<|aC (bT fun _ q=>by subst q;exact Le.refl _)<|aC (cI fun _ q=>by subst q;exact Le.refl _)<|aC (cm fun _ q=>by subst q;exact Le.refl _)<|aC (cq fun _ q=>by subst q;exact Le.refl _)<|aC (bF fun _ q=>by subst q;exact Le.refl _)<|aC (hP fun _ q=>by subst q;exact Le.refl _)<|aC (hP fun _ q=>by subst q;exact Le.refl _)<|aC (hP fun _ q=>by subst q;exact Le.refl _)<|aC (Le.two (fun _=>hP fun _ q=>by subst q;exact Le.refl _) (fun _=>lU fun _ q=>by subst q;exact Le.refl _))<|aC (Le.two (fun _=>lU fun _ q=>by subst q;exact Le.refl _) (fun _=>bL fun _ q=>by subst q;exact Le.refl _))<|aC (Le.two (fun _=>lU fun _ q=>by subst q;exact Le.refl _) (fun _=>bL fun _ q=>by subst q;exact Le.refl _))<|aC (Le.two (fun _=>lU fun _ q=>by subst q;exact Le.refl _) (fun _=>bL fun _ q=>by subst q;exact Le.refl _))<|Le.refl _
def agu (z:Nat)(x:Da)(k:Da->R):Le (elQ z x k) (k x):=by
 unfold elQ;exact aC (cJ fun _ q=>by subst q;exact Le.refl _)<|aC (hP fun _ q=>by subst q;exact Le.refl _)<|aC (cI fun _ q=>by subst q;exact Le.refl _)<|aC (cm fun _ q=>by subst q;exact Le.refl _)<|aC (cq fun _ q=>by subst q;exact Le.refl _)<|aC (bF fun _ q=>by subst q;exact Le.refl _)<|aC (Le.two (fun _=>lU fun _ q=>by subst q;exact Le.refl _) (fun _=>bL fun _ q=>by subst q;exact Le.refl _))<|aC (Le.two (fun _=>lU fun _ q=>by subst q;exact Le.refl _) (fun _=>bL fun _ q=>by subst q;exact Le.refl _))<|aC (Le.two (fun _=>lU fun _ q=>by subst q;exact Le.refl _) (fun _=>bL fun _ q=>by subst q;exact Le.refl _))<|Le.refl _
def hO (f:Nat)(hi:List Ob)(v:D)(o:List Ob)(k:KV):Le (H5 f hi v o k) (k v o):=by
 unfold H5;exact aC (SD hi v o k)<|aC (H4 hi v o k)<|aC (H4 hi v o k)<|aC (H3 hi v o k)<|aC (H3 hi v o k)<|aC (Sz hi v o k)<|aC (SB hi v o k)<|aC (SC hi v o k)<|aC (SA hi v o k)<|aC (Sw hi v o k)<|aC (Sx hi v o k)<|aC (fp hi v o k)<|aC (fp hi v o k)<|aC (fp hi v o k)<|aC (fp hi v o k)<|aC (fp hi v o k)<|aC (fp hi v o k)<|aC (fp hi v o k)<|aC (fp hi v o k)<|aC (fp hi v o k)<|aC (fp hi v o k)<|aC (fp hi v o k)<|aC (fp hi v o k)<|aC (mV hi v o k)<|aC (mV hi v o k)<|aC (mV hi v o k)<|aC (mV hi v o k)<|aC (mV hi v o k)<|aC (mV hi v o k)<|aC (Sv hi v o k)<|aC (Su hi v o k)<|aC (Ss hi v o k)<|aC (af1 hi v o k)<|aC (acx hi v o k)<|aC (acx hi v o k)<|aC (acx hi v o k)<|aC (aeJ hi v o k)<|aC (aeJ hi v o k)<|aC (afY hi v o k)<|aC (af0 hi v o k)<|aC (ķ hi v o k)<|aC (ķ hi v o k)<|aC (ķ hi v o k)<|aC (ķ hi v o k)<|aC (ķ hi v o k)<|aC (ķ hi v o k)<|aC (ķ hi v o k)<|aC (ķ hi v o k)<|aC (ķ hi v o k)<|aC (Ľ hi v o k)<|aC (Ľ hi v o k)<|aC (ķ hi v o k)<|aC (ķ hi v o k)<|aC (ķ hi v o k)<|aC (Ľ hi v o k)<|aC (ķ hi v o k)<|aC (Ľ hi v o k)<|aC (Ľ hi v o k)<|aC (Ľ hi v o k)<|aC (Ľ hi v o k)<|aC (ķ hi v o k)<|aC (ķ hi v o k)<|aC (ķ hi v o k)<|aC (ķ hi v o k)<|aC (ķ hi v o k)<|aC (ķ hi v o k)<|aC (ķ hi v o k)<|Le.refl _
def Z_ (z:D)(x:Da)(k:Da->R):Le (IJ z x k) (k x):=by
 unfold IJ;split
 ·exact bL fun _ q=>by subst q;exact Le.refl _
 ·exact lU fun _ q=>by subst q;exact Le.refl _
 ·skip
  exact Le.refl _
 ·exact Le.refl _
def aS:(ģ).Ok:=⟨Pg,hO,Z_⟩
def bQ:(Ø).Ok:=⟨Pg,hO,Z_⟩
def hR:(ĥ).Ok:=⟨Ph,hO,Z_⟩
def y9:(Ù).Ok:=⟨Ph,hO,Z_⟩
def cP:(Ĥ).Ok:=⟨W6,hO,Z_⟩
def sD:(Ú).Ok:=⟨Pi,hO,Z_⟩
def Ic:(Û).Ok:=⟨Pi,hO,Z_⟩
def OW:(ħ).Ok:=⟨W9,hO,Z_⟩
def OV:(Ħ).Ok:=⟨W8,hO,Z_⟩
def sE:(Ü).Ok:=⟨Pj,hO,Z_⟩
def aaF:(dcP).Ok:=⟨agt,hO,Z_⟩
def ags:(dcQ).Ok:=⟨agu,hO,Z_⟩
def gz (f:Nat):Fx:=(fY prog0 globs0 fe f).getD ⟨.skip,[],false⟩
variable {dc:gI}
def Ĩ (lp:ae->dT)(F:ae->R){f n m:Nat}{args:List D}{hp:List Ob}(hd:dc.Ok)(hx:lay0.tab f=some (.code (gz f)))(hm:dW f args hp.length=m)(hl:∀{cc:ae} {call:aD},bO cc call->∀e∈cn (gz f).body 1,bt (lp cc) call n m e)(h:∀cc,G2 m (lp cc) dc cc n (gz f) args hp=F cc):Le (F (dC lay0.tab n)) (evFn lay0.tab (n+1) f args hp):=
 Y6 hd hx hm (hl (Pr _ _)) (h _)
def Š (F:ae->R)(f:Nat)(args:List D)(hp:List Ob)(m n:Nat)(hd:dc.Ok)(lp:ae->dT){l:List (Nat×LN×Co×Bool)}(hl:∀{cc:ae} {call:aD},bO cc call->rd (lp cc) call n m l)(hx:lay0.tab f=some (.code (gz f)):=by kernel_rfl)(hm:dW f args hp.length=m:=by kernel_rfl)(hb:cn (gz f).body 1=l:=by kernel_rfl)(h:∀cc,G2 m (lp cc) dc cc n (gz f) args hp=F cc:=by intro _;kernel_rfl):Le (F (dC lay0.tab n)) (evFn lay0.tab (n+1) f args hp):=
 Ĩ lp F hd hx hm (fun hc=>HT hb (hl hc)) h
def df (F:ae->R)(f:Nat)(args:List D)(hp:List Ob)(m n:Nat)(hd:dc.Ok)(hx:lay0.tab f=some (.code (gz f)):=by kernel_rfl)(hm:dW f args hp.length=m:=by kernel_rfl)(hb:cn (gz f).body 1=[]:=by kernel_rfl)(h:∀cc,G2 m eD dc cc n (gz f) args hp=F cc:=by intro _;kernel_rfl):Le (F (dC lay0.tab n)) (evFn lay0.tab (n+1) f args hp):=
 Š F f args hp m n hd (fun _=>eD) (fun _=>aV) hx hm hb h
section
variable {ST:Type} {q:Nat} {r:Rd f9 ST} {lp:dT} {dc:gI} {cc:ae} {call:aD} {n m:Nat} {live:LN} {b:Co} {l:List (Nat×LN×Co×Bool)}
def eo {S:JJ->(ST->R)->ST->R}(hd:dc.Ok)(hc:bO cc call)(hin:rd lp call n m l)(hl:cn b q=l:=by kernel_rfl)
  (hS:∀(J:JJ) (Y:ST->R) st,qF lp dc cc n m b q (r.e st).1 (r.e st).2 (fun ex tm hp=>Q4 ex (Iy m live tm hp fun tm hp=>r.d (tm,hp) Y) (fun i=>J (.exit i) tm hp) (J .ret tm hp))=S J Y st:=by intro _ _ _;kernel_rfl):bt (jS q r S lp) call n m (q,live,b,true):=XN hd hc hS (HT hl hin)
def n5 {S:JJ->ST->R}(hd:dc.Ok)(hc:bO cc call)(hin:rd lp call n m l)(hl:cn b (4*q+3)=l:=by kernel_rfl)
  (hS:∀(J:JJ) st,qF lp dc cc n m b (4*q+3) (r.e st).1 (r.e st).2 J=S J st:=by intro _ _;kernel_rfl):bt (zR q r S lp) call n m (q,live,b,false):=XP hd hc hS (HT hl hin)
def Dn {S:JJ->(ST->R)->ST->R}{e:Nat×LN×Co×Bool}(h:bt lp call n m e)(hq:Nat.beq e.1 q=false:=by kernel_rfl):bt (jS q r S lp) call n m e:=XO hq h
def gY {S:JJ->ST->R}{e:Nat×LN×Co×Bool}(h:bt lp call n m e)(hq:Nat.beq e.1 q=false:=by kernel_rfl):bt (zR q r S lp) call n m e:=XQ hq h
end
abbrev Ω:=evFn lay0.tab
end
end Go.Ab
