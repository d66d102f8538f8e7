import Derived.Test.YtmnmeiibmgcddaaGreatDoorAl
import Derived.Test.YtmnmeiibmgcddaaGreatDoorAwZ
import Derived.KernelRfl
set_option linter.all false
namespace Go.Ab
open Go
set_option maxRecDepth 100000
noncomputable section
class Iso (A B:Type) where
 f:A->B
 g:B->A
 h:∀a,g (f a)=a
section
variable {A B C D:Type}
instance (priority:=10) iso0:Iso A A:=⟨id,id,fun _=>rfl⟩
instance isoU [s:Iso A B]:Iso (A×Unit) B:=⟨fun a=>s.f a.1,fun b=>(s.g b,()),fun a=>by rw[s.h]⟩
instance (priority:=20) isoP [s:Iso A B][u:Iso C D]:Iso (A×C) (B×D):=⟨fun a=>(s.f a.1,u.f a.2),fun b=>(s.g b.1,u.g b.2),fun a=>by rw[s.h,u.h]⟩
instance (priority:=5) isoA {Z:Type}[s:Iso (A×B×C) Z]:Iso ((A×B)×C) Z:=⟨fun a=>s.f (a.1.1,a.1.2,a.2),fun z=>(((s.g z).1,(s.g z).2.1),(s.g z).2.2),fun a=>by rw[s.h]⟩
instance (priority:=30) isoN {Z:Type}[s:Iso C Z]:Iso (Unit×C) Z:=⟨fun a=>s.f a.2,fun z=>((),s.g z),fun a=>by rw[s.h]⟩
end
namespace Rd
variable {T α β:Type}
def tl (r:Rd T α)[s:Iso α β]:Rd T β:=r.rm s.f s.g s.h
def i (k:Nat)(r:Rd (Tm×List Go.Ab.Ob) β):=t k (P (I .i64)) r
def l (k z:Nat)(r:Rd (Tm×List Go.Ab.Ob) β):=t k (P (L z)) r
def b (k:Nat)(r:Rd (Tm×List Go.Ab.Ob) β):=t k (P B) r
def s (k:Nat)(r:Rd (Tm×List Go.Ab.Ob) β):=t k (P S) r
def o (k i:Nat)(r:Rd (Tm×List Go.Ab.Ob) β):=v k (Bo i 0) r
def ci (r:Rd (List D) β):=c (P (I .i64)) r
def cl (z:Nat)(r:Rd (List D) β):=c (P (L z)) r
def cs (r:Rd (List D) β):=c (P S) r
def co (i:Nat)(r:Rd (List D) β):=u (Bo i 0) r
def gi (r:Rd (LD) β):=c (I .i64) r
def gl (z:Nat)(r:Rd (LD) β):=c (L z) r
def gs (r:Rd (LD) β):=c S r
end Rd
abbrev pI (i:Int):D:= .p (.int .i64 i)
abbrev pL (z:Nat)(l:LD):D:= .p (.slice z l)
abbrev pS (s:LN):D:= .p (.str s)
abbrev pB (b:Bool):D:= .p (.bool b)
def tI (k:Nat)(i:Int)(r:Tm):Tm:= .cons k (.p (.int .i64 i)) r
def tL (k z:Nat)(l:LD)(r:Tm):Tm:= .cons k (.p (.slice z l)) r
def tS (k:Nat)(s:LN)(r:Tm):Tm:= .cons k (.p (.str s)) r
def tB (k:Nat)(b:Bool)(r:Tm):Tm:= .cons k (.p (.bool b)) r
def tO (k i:Nat)(r:Tm):Tm:= .cons k (.box i 0) r
abbrev rT:R:=some (.p (.bool true),[])
abbrev rF:R:=some (.p (.bool false),[])
def aQ {ST:Type}{S:(ST->R)->ST->R}{q:Nat}{h:ST}:itL S (q+1) h=S (itL S q) h:=rfl
def X_ (a b:Ob):Bool:= @decide (a=b) (Classical.propDecidable _)
noncomputable instance mvG:Mv:=⟨fun f=>eW f [192,119,120,56,228,96,57,164,166,225,226,227,230,232,236,160,163,165],fun f=>0,fun f=>eW f [161],fun a b=>tE a b||X_ a b,fun a b h=>by rw[mπ]at h;exact h.elim C5 (@of_decide_eq_true _ (Classical.propDecidable _)),fun _ _ a=>by rw[mπ];exact .inr (@lκ _ (Classical.propDecidable _) rfl)⟩
def Dm:Da->Bool| .bool _=>true|_=>false
def VF:Da->Bool| .agg _=>true|_=>false
def VH:Da->Bool| .agg (.bool _::_)=>true|_=>false
def cD (hi o:List Ob)(k:R):R:= @ite _ (o=hi) (Classical.propDecidable _) k none
variable {Z:R}
def xS {hi o:List Ob}{k:R}(h:o=hi->Le k Z):Le (cD hi o k) Z:=by
 unfold cD;split
 ·rename_i e;exact h e
 ·exact Le.no _
def cd (hi:List Ob)(k:R):cD hi hi k=k:=by
 unfold cD;exact if_pos rfl
structure aq where
 Types:LD
def aq.e (t:aq):Da:= .agg [.slice 3 t.Types]
def aq.b (t:aq):Ob:= .box [.p (.slice 3 t.Types)]
def r_api_Code:Rd Da aq:= .rm (.G (.gl 3 .n)) (fun(v0,())=>⟨v0⟩) (fun t=>(t.Types,()))
def xT (x:Da)(k:aq->R):R:=r_api_Code.d x k
structure bo where
 (Type_ Method PC:Int)
 Locals:LD
def bo.e (t:bo):Da:= .agg [.int .i64 t.Type_,.int .i64 t.Method,.int .i64 t.PC,.slice 5 t.Locals]
def bo.b (t:bo):Ob:= .box [.p (.int .i64 t.Type_),.p (.int .i64 t.Method),.p (.int .i64 t.PC),.p (.slice 5 t.Locals)]
structure aA where
 (Kind N:Int)
 S:LN
 (I L:LD)
def aA.e (t:aA):Da:= .agg [.int .i64 t.Kind,.int .i64 t.N,.str t.S,.slice 1 t.I,.slice 1 t.L]
def aA.b (t:aA):Ob:= .box [.p (.int .i64 t.Kind),.p (.int .i64 t.N),.p (.str t.S),.p (.slice 1 t.I),.p (.slice 1 t.L)]
instance:Iso (Int×Int×LN×LD×LD×Unit) aA:=⟨fun(Kind,N,S,I,L,())=>⟨Kind,N,S,I,L⟩,fun t=>(t.Kind,t.N,t.S,t.I,t.L,()),fun _=>rfl⟩
def r_api_Value:Rd Da aA:= .tl<| .G (.gi<| .gi<| .gs<| .gl 1<| .gl 1 .n)
def ao (x:Da)(k:aA->R):R:=r_api_Value.d x k
def cr {x:Da}{k:aA->R}(h:∀t:aA,x=t.e->Le (k t) Z):Le (ao x k) Z:=r_api_Value.le _ _ _ h
structure iH where
 (Target_Type Target_Key Method:LN)
 Args:LD
def iH.e (t:iH):Da:= .agg [.str t.Target_Type,.str t.Target_Key,.str t.Method,.slice 5 t.Args]
def iH.b (t:iH):Ob:= .box [.p (.str t.Target_Type),.p (.str t.Target_Key),.p (.str t.Method),.p (.slice 5 t.Args)]
structure cC where
 (Kind Value_Kind Value_N:Int)
 Value_S:LN
 (Value_I Value_L:LD)
 (Call_Target_Type Call_Target_Key Call_Method:LN)
 Call_Args:LD
 (Err Machine_Type Machine_Method Machine_PC:Int)
 (Machine_Locals Fields Effects:LD)
 Fuel:Int
def cC.e (t:cC):Da:= .agg [.int .i64 t.Kind,.int .i64 t.Value_Kind,.int .i64 t.Value_N,.str t.Value_S,.slice 1 t.Value_I,.slice 1 t.Value_L,.str t.Call_Target_Type,.str t.Call_Target_Key,.str t.Call_Method,.slice 5 t.Call_Args,.int .i64 t.Err,.int .i64 t.Machine_Type,.int .i64 t.Machine_Method,.int .i64 t.Machine_PC,.slice 5 t.Machine_Locals,.slice 5 t.Fields,.slice 4 t.Effects,.int .i64 t.Fuel]
def cC.b (t:cC):Ob:= .box [.p (.int .i64 t.Kind),.p (.int .i64 t.Value_Kind),.p (.int .i64 t.Value_N),.p (.str t.Value_S),.p (.slice 1 t.Value_I),.p (.slice 1 t.Value_L),.p (.str t.Call_Target_Type),.p (.str t.Call_Target_Key),.p (.str t.Call_Method),.p (.slice 5 t.Call_Args),.p (.int .i64 t.Err),.p (.int .i64 t.Machine_Type),.p (.int .i64 t.Machine_Method),.p (.int .i64 t.Machine_PC),.p (.slice 5 t.Machine_Locals),.p (.slice 5 t.Fields),.p (.slice 4 t.Effects),.p (.int .i64 t.Fuel)]
def r_api_Segment:Rd Da cC:= .rm (.G (.gi<| .gi<| .gi<| .gs<| .gl 1<| .gl 1<| .gs<| .gs<| .gs<| .gl 5<| .gi<| .gi<| .gi<| .gi<| .gl 5<| .gl 5<| .gl 4<| .gi .n)) (fun(v0,(v1,(v2,(v3,(v4,(v5,(v6,(v7,(v8,(v9,(v10,(v11,(v12,(v13,(v14,(v15,(v16,(v17,()))))))))))))))))))=>⟨v0,v1,v2,v3,v4,v5,v6,v7,v8,v9,v10,v11,v12,v13,v14,v15,v16,v17⟩) (fun t=>(t.Kind,(t.Value_Kind,(t.Value_N,(t.Value_S,(t.Value_I,(t.Value_L,(t.Call_Target_Type,(t.Call_Target_Key,(t.Call_Method,(t.Call_Args,(t.Err,(t.Machine_Type,(t.Machine_Method,(t.Machine_PC,(t.Machine_Locals,(t.Fields,(t.Effects,(t.Fuel,())))))))))))))))))))
def c5 (x:Da)(k:cC->R):R:=r_api_Segment.d x k
def tw {x:Da}{k:cC->R}(h:∀t:cC,x=t.e->Le (k t) Z):Le (c5 x k) Z:=r_api_Segment.le _ _ _ h
structure ah where
 Name:LN
 (Fields Methods:LD)
def ah.e (t:ah):Da:= .agg [.str t.Name,.slice 7 t.Fields,.slice 5 t.Methods]
def ah.b (t:ah):Ob:= .box [.p (.str t.Name),.p (.slice 7 t.Fields),.p (.slice 5 t.Methods)]
def r_api_CodeType:Rd Da ah:= .rm (.G (.gs<| .gl 7<| .gl 5 .n)) (fun(v0,(v1,(v2,())))=>⟨v0,v1,v2⟩) (fun t=>(t.Name,(t.Fields,(t.Methods,()))))
def aF (x:Da)(k:ah->R):R:=r_api_CodeType.d x k
def bW {x:Da}{k:ah->R}(h:∀t:ah,x=t.e->Le (k t) Z):Le (aF x k) Z:=r_api_CodeType.le _ _ _ h
structure aj where
 Name:LN
 Params:LD
 Result:Int
 (Locals Code:LD)
def aj.e (t:aj):Da:= .agg [.str t.Name,.slice 1 t.Params,.int .i64 t.Result,.slice 1 t.Locals,.slice 8 t.Code]
def aj.b (t:aj):Ob:= .box [.p (.str t.Name),.p (.slice 1 t.Params),.p (.int .i64 t.Result),.p (.slice 1 t.Locals),.p (.slice 8 t.Code)]
def r_api_CodeMethod:Rd Da aj:= .rm (.G (.gs<| .gl 1<| .gi<| .gl 1<| .gl 8 .n)) (fun(v0,(v1,(v2,(v3,(v4,())))))=>⟨v0,v1,v2,v3,v4⟩) (fun t=>(t.Name,(t.Params,(t.Result,(t.Locals,(t.Code,()))))))
def aR (x:Da)(k:aj->R):R:=r_api_CodeMethod.d x k
def jk {x:Da}{k:aj->R}(h:∀t:aj,x=t.e->Le (k t) Z):Le (aR x k) Z:=r_api_CodeMethod.le _ _ _ h
structure eP where
 Kind:Int
 Name:LN
 (A B:Int)
def eP.e (t:eP):Da:= .agg [.int .i64 t.Kind,.str t.Name,.int .i64 t.A,.int .i64 t.B]
def eP.b (t:eP):Ob:= .box [.p (.int .i64 t.Kind),.p (.str t.Name),.p (.int .i64 t.A),.p (.int .i64 t.B)]
def r_api_Effect:Rd Da eP:= .rm (.G (.gi<| .gs<| .gi<| .gi .n)) (fun(v0,(v1,(v2,(v3,()))))=>⟨v0,v1,v2,v3⟩) (fun t=>(t.Kind,(t.Name,(t.A,(t.B,())))))
def bX (x:Da)(k:eP->R):R:=r_api_Effect.d x k
def cw {x:Da}{k:eP->R}(h:∀t:eP,x=t.e->Le (k t) Z):Le (bX x k) Z:=r_api_Effect.le _ _ _ h
structure cX where
 Name:LN
 (Kind Init_Kind Init_N:Int)
 Init_S:LN
 (Init_I Init_L:LD)
def cX.e (t:cX):Da:= .agg [.str t.Name,.int .i64 t.Kind,.int .i64 t.Init_Kind,.int .i64 t.Init_N,.str t.Init_S,.slice 1 t.Init_I,.slice 1 t.Init_L]
def cX.b (t:cX):Ob:= .box [.p (.str t.Name),.p (.int .i64 t.Kind),.p (.int .i64 t.Init_Kind),.p (.int .i64 t.Init_N),.p (.str t.Init_S),.p (.slice 1 t.Init_I),.p (.slice 1 t.Init_L)]
def r_api_Field:Rd Da cX:= .rm (.G (.gs<| .gi<| .gi<| .gi<| .gs<| .gl 1<| .gl 1 .n)) (fun(v0,(v1,(v2,(v3,(v4,(v5,(v6,())))))))=>⟨v0,v1,v2,v3,v4,v5,v6⟩) (fun t=>(t.Name,(t.Kind,(t.Init_Kind,(t.Init_N,(t.Init_S,(t.Init_I,(t.Init_L,()))))))))
def bg (x:Da)(k:cX->R):R:=r_api_Field.d x k
def cJ {x:Da}{k:cX->R}(h:∀t:cX,x=t.e->Le (k t) Z):Le (bg x k) Z:=r_api_Field.le _ _ _ h
structure au where
 (Op A B Value_Kind Value_N:Int)
 Value_S:LN
 (Value_I Value_L:LD)
def au.e (t:au):Da:= .agg [.int .i64 t.Op,.int .i64 t.A,.int .i64 t.B,.int .i64 t.Value_Kind,.int .i64 t.Value_N,.str t.Value_S,.slice 1 t.Value_I,.slice 1 t.Value_L]
def au.b (t:au):Ob:= .box [.p (.int .i64 t.Op),.p (.int .i64 t.A),.p (.int .i64 t.B),.p (.int .i64 t.Value_Kind),.p (.int .i64 t.Value_N),.p (.str t.Value_S),.p (.slice 1 t.Value_I),.p (.slice 1 t.Value_L)]
def r_api_Instr:Rd Da au:= .rm (.G (.gi<| .gi<| .gi<| .gi<| .gi<| .gs<| .gl 1<| .gl 1 .n)) (fun(v0,(v1,(v2,(v3,(v4,(v5,(v6,(v7,()))))))))=>⟨v0,v1,v2,v3,v4,v5,v6,v7⟩) (fun t=>(t.Op,(t.A,(t.B,(t.Value_Kind,(t.Value_N,(t.Value_S,(t.Value_I,(t.Value_L,())))))))))
def bd (x:Da)(k:au->R):R:=r_api_Instr.d x k
def cK {x:Da}{k:au->R}(h:∀t:au,x=t.e->Le (k t) Z):Le (bd x k) Z:=r_api_Instr.le _ _ _ h
structure bt where
 reached:Bool
 stack:LD
 set:Int
def bt.e (t:bt):Da:= .agg [.bool t.reached,.slice 1 t.stack,.int .u64 t.set]
def bt.b (t:bt):Ob:= .box [.p (.bool t.reached),.p (.slice 1 t.stack),.p (.int .u64 t.set)]
def r_bytecode_state:Rd Da bt:= .rm (.G (.c .B (.gl 1<| .c (.I .u64) .n))) (fun(v0,(v1,(v2,())))=>⟨v0,v1,v2⟩) (fun t=>(t.reached,(t.stack,(t.set,()))))
def aW (x:Da)(k:bt->R):R:=r_bytecode_state.d x k
def du {x:Da}{k:bt->R}(h:∀t:bt,x=t.e->Le (k t) Z):Le (aW x k) Z:=r_bytecode_state.le _ _ _ h
structure gU where
 (takes does:Da)
def gU.e (t:gU):Da:= .agg [t.takes,t.does]
def gU.b (t:gU):Ob:= .box [.p (t.takes),.p (t.does)]
structure bR where
 (takes puts:LD)
def bR.e (t:bR):Da:= .agg [.slice 1 t.takes,.slice 1 t.puts]
def bR.b (t:bR):Ob:= .box [.p (.slice 1 t.takes),.p (.slice 1 t.puts)]
def r_bytecode_effect:Rd Da bR:= .rm (.G (.gl 1<| .gl 1 .n)) (fun(v0,(v1,()))=>⟨v0,v1⟩) (fun t=>(t.takes,(t.puts,())))
def bv (x:Da)(k:bR->R):R:=r_bytecode_effect.d x k
def bF {x:Da}{k:bR->R}(h:∀t:bR,x=t.e->Le (k t) Z):Le (bv x k) Z:=r_bytecode_effect.le _ _ _ h
structure Xn where
 ct:LD
 mn:LN
 mp:LD
 mr:Int
 (ml mc:LD)
 (aT aM aP:Int)
 ln:Nat
 ky:LN
 (fn sn en:Nat)
 dn:Bool
 (oK vK vN:Int)
 vS:LN
 (vI vL:LD)
 (tT tK me:LN)
 ar:LD
 (er oT oM oP:Int)
 (ol of oe:LD)
 fu:Int
 (ls fs st es:LD)
def Xn.bx (j:Nat)(c:Xn):Ob:= .box [.p (.slice 3 c.ct),.p (.str c.mn),.p (.slice 1 c.mp),.p (.int .i64 c.mr),.p (.slice 1 c.ml),.p (.slice 8 c.mc),.p (.int .i64 c.aT),.p (.int .i64 c.aM),.p (.int .i64 c.aP),.arr (j+0) 0 c.ln 5,.p (.str c.ky),.arr (j+1) 0 c.fn 5,.arr (j+2) 0 c.sn 5,.arr (j+3) 0 c.en 4,.p (.bool c.dn),.p (.int .i64 c.oK),.p (.int .i64 c.vK),.p (.int .i64 c.vN),.p (.str c.vS),.p (.slice 1 c.vI),.p (.slice 1 c.vL),.p (.str c.tT),.p (.str c.tK),.p (.str c.me),.p (.slice 5 c.ar),.p (.int .i64 c.er),.p (.int .i64 c.oT),.p (.int .i64 c.oM),.p (.int .i64 c.oP),.p (.slice 5 c.ol),.p (.slice 5 c.of),.p (.slice 4 c.oe),.p (.int .i64 c.fu)]
def Xn.rs (c:Xn):List Ob:=[.arr c.ls,.arr c.fs,.arr c.st,.arr c.es]
def Xn.hp (k:Nat)(c:Xn):List Ob:=c.bx (k+1)::c.rs
def abC:LD:=[.int .i64 1,.int .i64 2,.int .i64 4,.int .i64 6,.int .i64 3,.int .i64 5,.int .i64 7,.int .i64 8,.int .i64 9,.int .i64 10,.int .i64 11,.int .i64 12,.int .i64 13,.int .i64 14,.int .i64 15,.int .i64 16,.int .i64 17,.int .i64 18,.int .i64 19,.int .i64 20,.int .i64 21,.int .i64 22,.int .i64 23,.int .i64 24,.int .i64 25,.int .i64 26,.int .i64 27,.int .i64 28,.int .i64 29,.int .i64 30,.int .i64 31,.int .i64 32,.int .i64 33,.int .i64 34,.int .i64 35,.int .i64 36]
def abD (b:Nat)(r:Int):List D:=[.p (.agg [.fn 235 [.ptr (.agg [.int .i64 0])],.fn 225 [.ptr (.agg [.fn 148 []])]]),.p (.agg [.fn 235 [.ptr (.agg [.int .i64 0])],.fn 225 [.ptr (.agg [.fn 149 []])]]),.p (.agg [.fn 235 [.ptr (.agg [.int .i64 0])],.fn 225 [.ptr (.agg [.fn 150 []])]]),.p (.agg [.fn 235 [.ptr (.agg [.int .i64 0])],.fn 225 [.ptr (.agg [.fn 151 []])]]),.p (.agg [.fn 235 [.ptr (.agg [.int .i64 1])],.fn 226 [.ptr (.agg [.fn 153 []])]]),.p (.agg [.fn 235 [.ptr (.agg [.int .i64 1])],.fn 226 [.ptr (.agg [.fn 154 []])]]),.p (.agg [.fn 235 [.ptr (.agg [.int .i64 1])],.fn 227 [.ptr (.agg [.str [45]])]]),.p (.agg [.fn 235 [.ptr (.agg [.int .i64 1])],.fn 227 [.ptr (.agg [.str [33]])]]),.p (.agg [.fn 235 [.ptr (.agg [.int .i64 2])],.fn 230 [.ptr (.agg [.str [43]])]]),.p (.agg [.fn 235 [.ptr (.agg [.int .i64 2])],.fn 230 [.ptr (.agg [.str [43]])]]),.p (.agg [.fn 235 [.ptr (.agg [.int .i64 2])],.fn 230 [.ptr (.agg [.str [45]])]]),.p (.agg [.fn 235 [.ptr (.agg [.int .i64 2])],.fn 230 [.ptr (.agg [.str [42]])]]),.p (.agg [.fn 235 [.ptr (.agg [.int .i64 2])],.fn 230 [.ptr (.agg [.str [47]])]]),.p (.agg [.fn 235 [.ptr (.agg [.int .i64 2])],.fn 230 [.ptr (.agg [.str [37]])]]),.p (.agg [.fn 235 [.ptr (.agg [.int .i64 2])],.fn 230 [.ptr (.agg [.str [61,61]])]]),.p (.agg [.fn 235 [.ptr (.agg [.int .i64 2])],.fn 230 [.ptr (.agg [.str [33,61]])]]),.p (.agg [.fn 235 [.ptr (.agg [.int .i64 2])],.fn 230 [.ptr (.agg [.str [60]])]]),.p (.agg [.fn 235 [.ptr (.agg [.int .i64 2])],.fn 230 [.ptr (.agg [.str [60,61]])]]),.p (.agg [.fn 235 [.ptr (.agg [.int .i64 2])],.fn 230 [.ptr (.agg [.str [62]])]]),.p (.agg [.fn 235 [.ptr (.agg [.int .i64 2])],.fn 230 [.ptr (.agg [.str [62,61]])]]),.p (.agg [.fn 235 [.ptr (.agg [.int .i64 1])],.fn 232 [.ptr (.agg [.str [108,101,110]])]]),.p (.agg [.fn 235 [.ptr (.agg [.int .i64 2])],.fn 232 [.ptr (.agg [.str [97,116]])]]),.p (.agg [.fn 235 [.ptr (.agg [.int .i64 2])],.fn 232 [.ptr (.agg [.str [97,112,112,101,110,100]])]]),.p (.agg [.fn 235 [.ptr (.agg [.int .i64 3])],.fn 232 [.ptr (.agg [.str [115,101,116]])]]),.p (.agg [.fn 235 [.ptr (.agg [.int .i64 1])],.fn 232 [.ptr (.agg [.str [115,116,114]])]]),.p (.agg [.fn 234 [],.fn 232 [.ptr (.agg [.str [105,110,116,115]])]]),.p (.agg [.fn 234 [],.fn 232 [.ptr (.agg [.str [115,116,114,105,110,103,115]])]]),.p (.agg [.fn 235 [.ptr (.agg [.int .i64 0])],.fn 160 []]),.p (.agg [.fn 235 [.ptr (.agg [.int .i64 1])],.fn 160 []]),.agg [.fn 161 [.box b 0],.p (.fn 163 [])],.p (.agg [.fn 235 [.ptr (.agg [.int .i64 1])],.fn 164 []]),.p (.agg [.fn 235 [.ptr (.agg [.int .i64 r])],.fn 165 []]),.p (.agg [.fn 235 [.ptr (.agg [.int .i64 0])],.fn 166 []]),.p (.agg [.fn 235 [.ptr (.agg [.int .i64 2])],.fn 236 [.ptr (.agg [.int .i64 1])]]),.p (.agg [.fn 235 [.ptr (.agg [.int .i64 3])],.fn 236 [.ptr (.agg [.int .i64 2])]]),.p (.agg [.fn 235 [.ptr (.agg [.int .i64 1])],.fn 236 [.ptr (.agg [.int .i64 3])]])]
def Ob.tabO (b:Nat)(r:Int):Ob:= .mapd abC (abD b r)
def Qq:Da->Bool| .str _=>true|_=>false
def Ö (j:Nat):Rd Ob ((LD)×(LN)×(LD)×(Int)×(LD)×(LD)×(Int)×(Int)×(Int)×(Nat)×(LN)×(Nat)×(Nat)×(Nat)×(Bool)×(Int)×(Int)×(Int)×(LN)×(LD)×(LD)×(LN)×(LN)×(LN)×(LD)×(Int)×(Int)×(Int)×(Int)×(LD)×(LD)×(LD)×(Int)×Unit):= .Ob (.c (.P (.L 3)) (.c (.P .S) (.c (.P (.L 1)) (.c (.P (.I .i64)) (.c (.P (.L 1)) (.c (.P (.L 8)) (.c (.P (.I .i64)) (.c (.P (.I .i64)) (.c (.P (.I .i64)) (.c (.Ar (j+0) 5) (.c (.P .S) (.c (.Ar (j+1) 5) (.c (.Ar (j+2) 5) (.c (.Ar (j+3) 4) (.c (.P .B) (.c (.P (.I .i64)) (.c (.P (.I .i64)) (.c (.P (.I .i64)) (.c (.P .S) (.c (.P (.L 1)) (.c (.P (.L 1)) (.c (.P .S) (.c (.P .S) (.c (.P .S) (.c (.P (.L 5)) (.c (.P (.I .i64)) (.c (.P (.I .i64)) (.c (.P (.I .i64)) (.c (.P (.I .i64)) (.c (.P (.L 5)) (.c (.P (.L 5)) (.c (.P (.L 4)) (.c (.P (.I .i64)) .n)))))))))))))))))))))))))))))))))
def mkX:((LD)×(LN)×(LD)×(Int)×(LD)×(LD)×(Int)×(Int)×(Int)×(Nat)×(LN)×(Nat)×(Nat)×(Nat)×(Bool)×(Int)×(Int)×(Int)×(LN)×(LD)×(LD)×(LN)×(LN)×(LN)×(LD)×(Int)×(Int)×(Int)×(Int)×(LD)×(LD)×(LD)×(Int)×Unit)->LD->LD->LD->LD->Xn:=fun(ct,(mn,(mp,(mr,(ml,(mc,(aT,(aM,(aP,(ln,(ky,(fn,(sn,(en,(dn,(oK,(vK,(vN,(vS,(vI,(vL,(tT,(tK,(me,(ar,(er,(oT,(oM,(oP,(ol,(of,(oe,(fu,_))))))))))))))))))))))))))))))))) ls fs st es=>⟨ct,mn,mp,mr,ml,mc,aT,aM,aP,ln,ky,fn,sn,en,dn,oK,vK,vN,vS,vI,vL,tT,tK,me,ar,er,oT,oM,oP,ol,of,oe,fu,ls,fs,st,es⟩
def unX (c:Xn):((LD)×(LN)×(LD)×(Int)×(LD)×(LD)×(Int)×(Int)×(Int)×(Nat)×(LN)×(Nat)×(Nat)×(Nat)×(Bool)×(Int)×(Int)×(Int)×(LN)×(LD)×(LD)×(LN)×(LN)×(LN)×(LD)×(Int)×(Int)×(Int)×(Int)×(LD)×(LD)×(LD)×(Int)×Unit):=(c.ct,(c.mn,(c.mp,(c.mr,(c.ml,(c.mc,(c.aT,(c.aM,(c.aP,(c.ln,(c.ky,(c.fn,(c.sn,(c.en,(c.dn,(c.oK,(c.vK,(c.vN,(c.vS,(c.vI,(c.vL,(c.tT,(c.tK,(c.me,(c.ar,(c.er,(c.oT,(c.oM,(c.oP,(c.ol,(c.of,(c.oe,(c.fu,())))))))))))))))))))))))))))))))))
def r_Xn:Rd (List Ob) Xn:= .rm (.c (Ö 1)<| .c .Oa<| .c .Oa<| .c .Oa<| .c .Oa .n) (fun(b,ls,fs,st,es,_)=>mkX b ls fs st es) (fun c=>(unX c,c.ls,c.fs,c.st,c.es,()))
def r_X3:Rd (List Ob) (Xn×LD×LD):= .rm (.c (Ö 3) (.c .Of (.c .Of (.c .Oa (.c .Oa (.c .Oa (.c .Oa .n))))))) (fun(b,x,y,ls,fs,st,es,_)=>(mkX b ls fs st es,x,y)) (fun p=>(unX p.1,p.2.1,p.2.2,p.1.ls,p.1.fs,p.1.st,p.1.es,()))
def Vc (r:Int):D:= .p (.agg [.fn 235 [.ptr (.agg [.int .i64 r])],.fn 165 []])
def Q_ (b:Nat)(o:Ob)(kt:Int->R):R:=match o with
 | .mapd ks ws=>match ws.drop 31 with
  | .p (.agg [.fn f [.ptr (.agg [.int i r])],.fn g []])::_=>bif tE (.mapd ks (ws.set 31 (Vc 0))) (.tabO b 0)&&(Nat.beq f 235&&(Nat.beq g 165&&Nat.beq (kc i) (kc .i64)))then kt r else none
  |_=>none
 |_=>none
def Ŭ {b:Nat}{o:Ob}{kt:Int->R}(h:∀r,o= .tabO b r->Le (kt r) Z):Le (Q_ b o kt) Z:=by
 unfold Q_;split
 ·rename_i ks ws;split
  ·rename_i f i r g tl hd;cases hc:tE (.mapd ks (ws.set 31 (Vc 0))) (.tabO b 0)&&(Nat.beq f 235&&(Nat.beq g 165&&Nat.beq (kc i) (kc .i64)))with
   |false=>exact Le.no _
   |true=>
    refine h r ?_;simp only[lγ]at hc;obtain⟨h1,h2,h3,h4⟩:=hc;have e:=C5 h1;simp only[Ob.tabO,Ob.mapd.injEq]at e;obtain⟨rfl,e⟩:=e;have hw:ws[31]?=some (Vc r):=by
     have:=congrArg List.head? hd;rw[List.head?_drop]at this;rw[this,lν h2,lν h3,K4 h4];rfl
    have e2:ws=(ws.set 31 (Vc 0)).set 31 (Vc r):=by
     apply List.ext_getElem?;intro k;simp only[List.set_set,List.getElem?_set];by_cases hk:31=k
     ·subst hk;obtain⟨q1,q2⟩:=List.getElem?_eq_some_iff.1 hw;rw[if_pos rfl,if_pos q1,hw]
     ·rw[if_neg hk]
    rw[e2,e];rfl
  ·exact Le.no _
 ·exact Le.no _
def Ĉ (b:Nat)(r:Int)(K:Int->R)(h:tE (.tabO b 0) (.tabO b 0)=true):Q_ b (.tabO b r) K=K r:=by
 have:Q_ b (.tabO b r) K=bif tE (.tabO b 0) (.tabO b 0)&&true then K r else none:=rfl
 rw[this,h];rfl
def Rd.Tb (b:Nat):Rd Go.Ab.Ob Int:=⟨fun r=> .tabO b r,Q_ b,fun _ _ _=>Ŭ⟩
def r_Xs:Rd (List Ob) (Xn×Int):= .rm (.c (Ö 2) (.c (.Tb 6) (.c .Oa (.c .Oa (.c .Oa (.c .Oa (.u (.Ob (.u (.Bo 0 0) .n)) .n))))))) (fun(b,r,ls,fs,st,es,_)=>(mkX b ls fs st es,r)) (fun p=>(unX p.1,p.2,p.1.ls,p.1.fs,p.1.st,p.1.es,()))
def r_Xt:Rd (List Ob) (Xn×Int):= .rm (.c (Ö 1) (.c .Oa (.c .Oa (.c .Oa (.c .Oa (.c (.Tb 6) (.u (.Ob (.u (.Bo 0 0) .n)) .n))))))) (fun(b,ls,fs,st,es,r,_)=>(mkX b ls fs st es,r)) (fun p=>(unX p.1,p.1.ls,p.1.fs,p.1.st,p.1.es,p.2,()))
def W7 (o:List Ob)(kt:Xn->R):R:=r_Xn.d o kt
def UL {o:List Ob}{kt:Xn->R}(h:∀c,o=c.hp 0->Le (kt c) Z):Le (W7 o kt) Z:=r_Xn.le _ _ _ fun a q=>h a q
def UK (c:Xn)(K:Xn->R):W7 (c.hp 0) K=K c:=rfl
def YW (o:List Ob)(kt:Xn->LD->LD->R):R:=r_X3.d o fun p=>kt p.1 p.2.1 p.2.2
def ŭ {o:List Ob}{kt:Xn->LD->LD->R}(h:∀c x y,o=c.bx 3:: .fz x:: .fz y::c.rs->Le (kt c x y) Z):Le (YW o kt) Z:=r_X3.le _ _ _ fun a q=>h a.1 a.2.1 a.2.2 q
def ĉ (c:Xn)(x y:LD)(K:Xn->LD->LD->R):YW (c.bx 3:: .fz x:: .fz y::c.rs) K=K c x y:=rfl
def dXs (o:List Ob)(kt:Xn->Int->R):R:=r_Xs.d o fun p=>kt p.1 p.2
variable {kt:Xn->Int->R}
def Ů {o:List Ob}(h:∀c r,o=c.bx 2:: .tabO 6 r::(c.rs++[.box [.box 0 0]])->Le (kt c r) Z):Le (dXs o kt) Z:=r_Xs.le _ _ _ fun a q=>h a.1 a.2 q
def dXt (o:List Ob)(kt:Xn->Int->R):R:=r_Xt.d o fun p=>kt p.1 p.2
def ů {o:List Ob}(h:∀c r,o=c.hp 0++[.tabO 6 r,.box [.box 0 0]]->Le (kt c r) Z):Le (dXt o kt) Z:=r_Xt.le _ _ _ fun a q=>h a.1 a.2 q
def vT {b:Bool}{x y:R}(h:Le x Z)(g:Le y Z):Le (bif b then x else y) Z:=by cases b<;>assumption
def q0 (hi:List Ob)(v:D)(o:List Ob)(k:KV):R:=dP v fun x=>aJ .i64 x fun e=>W7 o fun c=>k (.p (.int .i64 e)) (c.hp 0)
def fZ (hi:List Ob)(v:D)(o:List Ob)(k:KV):Le (q0 hi v o k) (k v o):=by
 unfold q0;refine lz fun _ q=>?_;subst q
 refine bO fun _ q=>?_;subst q
 refine UL fun _ q=>?_;subst q
 exact Le.refl _
def Ŝ (hi:List Ob)(v:D)(o:List Ob)(k:KV):R:=bQ v fun r=>ag r<|bif Nat.beq hi.length 7 then YW o fun c x y=>k (.tup []) (c.bx 3:: .fz x:: .fz y::c.rs)else W7 o fun c=>k (.tup []) (c.hp 0)
def YJ (hi:List Ob)(v:D)(o:List Ob)(k:KV):Le (Ŝ hi v o k) (k v o):=by
 unfold Ŝ;refine Nk fun _ q=>?_;subst q
 refine cE fun q=>?_;subst q
 refine vT ?_ ?_
 ·refine ŭ fun _ _ _ q=>?_;subst q
  exact Le.refl _
 ·refine UL fun _ q=>?_;subst q
  exact Le.refl _
def ş (hi:List Ob)(v:D)(o:List Ob)(k:KV):R:=dP v fun x=>aJ .i64 x fun e=>dXs o fun c r=>k (.p (.int .i64 e)) (c.bx 2:: .tabO 6 r::(c.rs++[.box [.box 0 0]]))
def YL (hi:List Ob)(v:D)(o:List Ob)(k:KV):Le (ş hi v o k) (k v o):=by
 unfold ş;refine lz fun _ q=>?_;subst q
 refine bO fun _ q=>?_;subst q
 refine Ů fun _ _ q=>?_;subst q
 exact Le.refl _
def Š (hi:List Ob)(v:D)(o:List Ob)(k:KV):R:=g_ 5 v<|dXt o fun c r=>k (.map 5) (c.hp 0++[.tabO 6 r,.box [.box 0 0]])
def YM (hi:List Ob)(v:D)(o:List Ob)(k:KV):Le (Š hi v o k) (k v o):=by
 unfold Š;refine KH fun q=>?_;subst q
 refine ů fun _ _ q=>?_;subst q
 exact Le.refl _
def ŝ (hi:List Ob)(v:D)(o:List Ob)(k:KV):R:=dP v fun x=>c5 x fun s=>aa o fun a o=>aa o fun b o=>aa o fun c o=>aa o fun d o=>aa o fun e o=>ag o<|k (.p s.e) [a,b,c,d,e]
def YK (hi:List Ob)(v:D)(o:List Ob)(k:KV):Le (ŝ hi v o k) (k v o):=by
 unfold ŝ;refine lz fun _ q=>?_;subst q
 refine tw fun _ q=>?_;subst q
 refine bq fun _ _ q=>?_;subst q
 refine bq fun _ _ q=>?_;subst q
 refine bq fun _ _ q=>?_;subst q
 refine bq fun _ _ q=>?_;subst q
 refine bq fun _ _ q=>?_;subst q
 refine cE fun q=>?_;subst q
 exact Le.refl _
def Ś (hi:List Ob)(v:D)(o:List Ob)(k:KV):R:=YV 1 0 v fun n=>cD hi o<|k (.el 1 n 0) hi
def YH (hi:List Ob)(v:D)(o:List Ob)(k:KV):Le (Ś hi v o k) (k v o):=by
 unfold Ś;refine UF fun _ q=>?_;subst q
 refine xS fun q=>?_;subst q
 exact Le.refl _
def ś (hi:List Ob)(v:D)(o:List Ob)(k:KV):R:=YV 2 0 v fun n=>cD hi o<|k (.el 2 n 0) hi
def YI (hi:List Ob)(v:D)(o:List Ob)(k:KV):Le (ś hi v o k) (k v o):=by
 unfold ś;refine UF fun _ q=>?_;subst q
 refine xS fun q=>?_;subst q
 exact Le.refl _
def YD (hi:List Ob)(v:D)(o:List Ob)(k:KV):R:=bif hi.isEmpty then cf 0 5 v fun len=>aa o fun x t=>bL x fun es=>ag t<|k (.arr 0 0 len 5) [.arr es]else cf 1 5 v fun len=>aa o fun x t=>bL x fun l=>aa t fun x t=>bL x fun es=>ag t<|k (.arr 1 0 len 5) [.arr l,.arr es]
def Nb (hi:List Ob)(v:D)(o:List Ob)(k:KV):Le (YD hi v o k) (k v o):=by
 unfold YD;refine vT ?_ ?_
 ·refine iI fun _ q=>?_;subst q
  refine bq fun _ _ q=>?_;subst q
  refine f3 fun _ q=>?_;subst q
  refine cE fun q=>?_;subst q
  exact Le.refl _
 ·refine iI fun _ q=>?_;subst q
  refine bq fun _ _ q=>?_;subst q
  refine f3 fun _ q=>?_;subst q
  refine bq fun _ _ q=>?_;subst q
  refine f3 fun _ q=>?_;subst q
  refine cE fun q=>?_;subst q
  exact Le.refl _
def YB (hi:List Ob)(v:D)(o:List Ob)(k:KV):R:=cf 0 1 v fun len=>aa o fun x t=>bL x fun es=>ag t<|k (.arr 0 0 len 1) [.arr es]
def Na (hi:List Ob)(v:D)(o:List Ob)(k:KV):Le (YB hi v o k) (k v o):=by
 unfold YB;refine iI fun _ q=>?_;subst q
 refine bq fun _ _ q=>?_;subst q
 refine f3 fun _ q=>?_;subst q
 refine cE fun q=>?_;subst q
 exact Le.refl _
def Ur (hi:List Ob)(v:D)(o:List Ob)(k:KV):R:=cf 1 1 v fun len=>aa o fun x t=>jb x<|aa t fun x t=>bL x fun es=>ag t<|k (.arr 1 0 len 1) [.dead,.arr es]
def CS (hi:List Ob)(v:D)(o:List Ob)(k:KV):Le (Ur hi v o k) (k v o):=by
 unfold Ur;refine iI fun _ q=>?_;subst q
 refine bq fun _ _ q=>?_;subst q
 refine yI fun q=>?_;subst q
 refine bq fun _ _ q=>?_;subst q
 refine f3 fun _ q=>?_;subst q
 refine cE fun q=>?_;subst q
 exact Le.refl _
def Ŗ (hi:List Ob)(v:D)(o:List Ob)(k:KV):R:=bif hi.isEmpty then cf 0 1 v fun len=>aa o fun x t=>bL x fun es=>ag t<|k (.arr 0 0 len 1) [.arr es]else cf 1 1 v fun len=>aa o fun x t=>bL x fun l=>aa t fun x t=>bL x fun es=>ag t<|k (.arr 1 0 len 1) [.arr l,.arr es]
def YC (hi:List Ob)(v:D)(o:List Ob)(k:KV):Le (Ŗ hi v o k) (k v o):=by
 unfold Ŗ;refine vT ?_ ?_
 ·refine iI fun _ q=>?_;subst q
  refine bq fun _ _ q=>?_;subst q
  refine f3 fun _ q=>?_;subst q
  refine cE fun q=>?_;subst q
  exact Le.refl _
 ·refine iI fun _ q=>?_;subst q
  refine bq fun _ _ q=>?_;subst q
  refine f3 fun _ q=>?_;subst q
  refine bq fun _ _ q=>?_;subst q
  refine f3 fun _ q=>?_;subst q
  refine cE fun q=>?_;subst q
  exact Le.refl _
def š (hi:List Ob)(v:D)(o:List Ob)(k:KV):R:=nD v fun l=>aa l fun d l=>dP d fun x=>aJ .i64 x fun kd=>aa l fun d l=>dP d fun x=>aJ .i64 x fun n=>aa l fun d l=>dP d fun x=>dG x fun s=>aa l fun d l=>cf 0 1 d fun a=>aa l fun d l=>cf 1 1 d fun b=>ag l<|aa o fun x o=>bL x fun is=>aa o fun x o=>bL x fun ls=>ag o<|k (.agg [.p (.int .i64 kd),.p (.int .i64 n),.p (.str s),.arr 0 0 a 1,.arr 1 0 b 1]) [.arr is,.arr ls]
def YN (hi:List Ob)(v:D)(o:List Ob)(k:KV):Le (š hi v o k) (k v o):=by
 unfold š;refine Nh fun _ q=>?_;subst q
 refine bq fun _ _ q=>?_;subst q
 refine lz fun _ q=>?_;subst q
 refine bO fun _ q=>?_;subst q
 refine bq fun _ _ q=>?_;subst q
 refine lz fun _ q=>?_;subst q
 refine bO fun _ q=>?_;subst q
 refine bq fun _ _ q=>?_;subst q
 refine lz fun _ q=>?_;subst q
 refine jw fun _ q=>?_;subst q
 refine bq fun _ _ q=>?_;subst q
 refine iI fun _ q=>?_;subst q
 refine bq fun _ _ q=>?_;subst q
 refine iI fun _ q=>?_;subst q
 refine cE fun q=>?_;subst q
 refine bq fun _ _ q=>?_;subst q
 refine f3 fun _ q=>?_;subst q
 refine bq fun _ _ q=>?_;subst q
 refine f3 fun _ q=>?_;subst q
 refine cE fun q=>?_;subst q
 exact Le.refl _
def Ř (hi:List Ob)(v:D)(o:List Ob)(k:KV):R:=dP v fun x=>dA 235 x fun l=>aa l fun c l=>ag l<|ag o<|k (.p (.fn 235 [c])) []
def YF (hi:List Ob)(v:D)(o:List Ob)(k:KV):Le (Ř hi v o k) (k v o):=by
 unfold Ř;refine lz fun _ q=>?_;subst q
 refine vX fun _ q=>?_;subst q
 refine bq fun _ _ q=>?_;subst q
 refine cE fun q=>?_;subst q
 refine cE fun q=>?_;subst q
 exact Le.refl _
def GJ (hi:List Ob)(v:D)(o:List Ob)(k:KV):R:=dP v fun x=>cp x fun l=>aa l fun a l=>aa l fun b l=>ag l<|ag o<|k (.p (.agg [a,b])) []
def oF (hi:List Ob)(v:D)(o:List Ob)(k:KV):Le (GJ hi v o k) (k v o):=by
 unfold GJ;refine lz fun _ q=>?_;subst q
 refine vW fun _ q=>?_;subst q
 refine bq fun _ _ q=>?_;subst q
 refine bq fun _ _ q=>?_;subst q
 refine cE fun q=>?_;subst q
 refine cE fun q=>?_;subst q
 exact Le.refl _
def ř (hi:List Ob)(v:D)(o:List Ob)(k:KV):R:=dP v fun x=>cp x fun l=>aa l fun a l=>aa l fun b l=>ag l<|ag o<|dA 235 a fun l=>aa l fun c l=>ag l<|dA 232 b fun l=>aa l fun d l=>ag l<|k (.p (.agg [.fn 235 [c],.fn 232 [d]])) []
def YG (hi:List Ob)(v:D)(o:List Ob)(k:KV):Le (ř hi v o k) (k v o):=by
 unfold ř;refine lz fun _ q=>?_;subst q
 refine vW fun _ q=>?_;subst q
 refine bq fun _ _ q=>?_;subst q
 refine bq fun _ _ q=>?_;subst q
 refine cE fun q=>?_;subst q
 refine cE fun q=>?_;subst q
 refine vX fun _ q=>?_;subst q
 refine bq fun _ _ q=>?_;subst q
 refine cE fun q=>?_;subst q
 refine vX fun _ q=>?_;subst q
 refine bq fun _ _ q=>?_;subst q
 refine cE fun q=>?_;subst q
 exact Le.refl _
def ŗ (hi:List Ob)(v:D)(o:List Ob)(k:KV):R:=bif hi.isEmpty then dP v fun x=>cR 2 x fun l=>ag o<|k (.p (.slice 2 l)) []else dP v fun x=>cR 2 x fun l=>aa o fun x t=>oFz x fun es=>ag t<|k (.p (.slice 2 l)) [.fz es]
def YE (hi:List Ob)(v:D)(o:List Ob)(k:KV):Le (ŗ hi v o k) (k v o):=by
 unfold ŗ;refine vT ?_ ?_
 ·refine lz fun _ q=>?_;subst q
  refine CV fun _ q=>?_;subst q
  refine cE fun q=>?_;subst q
  exact Le.refl _
 ·refine lz fun _ q=>?_;subst q
  refine CV fun _ q=>?_;subst q
  refine bq fun _ _ q=>?_;subst q
  refine Lp fun _ q=>?_;subst q
  refine cE fun q=>?_;subst q
  exact Le.refl _
def av {b:Bool}{x y:R}(h:Le x Z)(g:Le y Z):Le (bif b then x else y) Z:=by cases b<;>assumption
def tj {α:Type}(r:Rd D α)(hi:List Ob)(v:D)(o:List Ob)(k:KV):R:=r.d v fun a=>Li hi o fun o=>k (r.e a) o
def de {α:Type}{r:Rd D α}(hi:List Ob)(v:D)(o:List Ob)(k:KV):Le (tj r hi v o k) (k v o):=r.le v _ _ fun a q=>by subst q;exact BJ hi o (Le.refl _)
def Ş {α:Type}(r:Rd D α)(hi:List Ob)(v:D)(o:List Ob)(k:KV):R:=r.d v fun a=>cD hi o<|k (r.e a) hi
def tn {α:Type}{r:Rd D α}(hi:List Ob)(v:D)(o:List Ob)(k:KV):Le (Ş r hi v o k) (k v o):=r.le v _ _ fun a q=>by subst q;exact xS fun q=>by subst q;exact Le.refl _
def Kz (f:Nat)(hi:List Ob)(v:D)(o:List Ob)(k:KV):R:=bif Nat.beq f 55 then š hi v o k else bif Nat.beq f 39 then YD hi v o k else bif Nat.beq f 84 then YD hi v o k else bif Nat.beq f 76 then YB hi v o k else bif Nat.beq f 77 then YB hi v o k else bif Nat.beq f 56 then Ŝ hi v o k else bif Nat.beq f 96 then ş hi v o k else bif Nat.beq f 95 then Š hi v o k else bif Nat.beq f 57 then ŝ hi v o k else bif Nat.beq f 153 then Ś hi v o k else bif Nat.beq f 154 then ś hi v o k else bif Nat.beq f 228 then q0 hi v o k else bif Nat.beq f 164 then q0 hi v o k else bif Nat.beq f 166 then q0 hi v o k else bif Nat.beq f 225 then q0 hi v o k else bif Nat.beq f 226 then q0 hi v o k else bif Nat.beq f 227 then q0 hi v o k else bif Nat.beq f 230 then q0 hi v o k else bif Nat.beq f 232 then q0 hi v o k else bif Nat.beq f 236 then q0 hi v o k else bif Nat.beq f 160 then q0 hi v o k else bif Nat.beq f 163 then q0 hi v o k else bif Nat.beq f 165 then q0 hi v o k else bif Nat.beq f 147 then GJ hi v o k else bif Nat.beq f 152 then GJ hi v o k else bif Nat.beq f 155 then GJ hi v o k else bif Nat.beq f 156 then GJ hi v o k else bif Nat.beq f 158 then GJ hi v o k else bif Nat.beq f 167 then GJ hi v o k else bif Nat.beq f 157 then ř hi v o k else bif Nat.beq f 159 then Ř hi v o k else bif Nat.beq f 245 then ŗ hi v o k else bif Nat.beq f 118 then Ŗ hi v o k else bif Nat.beq f 192 then Ur hi v o k else bif Nat.beq f 119 then Ur hi v o k else bif Nat.beq f 120 then Ur hi v o k else bif eW f [9,10,11,17,19,27,32,35,38,47,48,50,53,61,63,71,72,87,88,89,93,94,105,106,107,178,182,183,184,187,198,199,241,243,244,255,256,299]then tj (.P .B) hi v o k else bif eW f [14,36,37]then tj (.Tu (.c (.P (.I .i64)) (.c (.P .B) .n))) hi v o k else bif eW f [24]then tj (.Tu (.c (.P r_api_Segment) (.c (.P (.I .i64)) .n))) hi v o k else bif eW f [29,44,65,195,197,234,235,300]then tj (.P (.I .i64)) hi v o k else bif eW f [30]then tj (.Tu (.c (.P r_api_Code) (.c (.P (.I .i64)) (.c (.P (.I .i64)) .n)))) hi v o k else bif eW f [31,46,69,116,117,121,122,191,246,247,303]then tj (.P (.L 1)) hi v o k else bif eW f [45]then tj (.Tu (.c (.P r_api_CodeMethod) (.c (.P .B) .n))) hi v o k else bif eW f [51]then tj (.Tu (.c (.P r_api_CodeType) (.c (.P .B) .n))) hi v o k else bif eW f [52,62,80,82,83,101,102,104,110,181,185,186,240]then Ş (.P .B) hi v o k else bif eW f [64]then tj (.Tu (.c (.P (.L 3)) (.c (.P .B) .n))) hi v o k else bif eW f [66]then tj (.P r_api_CodeType) hi v o k else bif eW f [67,68,70,112]then tj (.Tu .n) hi v o k else bif eW f [79,81]then Ş (.Tu (.c (.P (.I .i64)) (.c (.P .B) .n))) hi v o k else bif eW f [86]then tj (.P (.L 3)) hi v o k else bif eW f [103,179,180]then Ş (.P .S) hi v o k else bif eW f [108,109]then tj (.Tu (.c (.P (.L 1)) (.c (.P .B) .n))) hi v o k else bif eW f [111]then tj (.Tu (.c (.P (.I .u64)) (.c (.P (.I .i64)) (.c (.P (.I .i64)) .n)))) hi v o k else bif eW f [113,301]then tj (.P .S) hi v o k else bif eW f [114,296,298]then tj (.P r_api_Value) hi v o k else bif eW f [115]then tj (.P r_api_CodeMethod) hi v o k else bif eW f [139,140,161,239,242,302]then Ş (.P (.I .i64)) hi v o k else bif eW f [148,149,150,151]then Ş (.P r_api_Value) hi v o k else bif eW f [162]then Ş (.Tu (.c (.P r_api_CodeType) (.c (.P r_api_CodeMethod) .n))) hi v o k else bif eW f [188]then tj (.P (.L 2)) hi v o k else bif eW f [189,306]then tj (.Tu (.c (.P .S) (.c (.P (.I .i64)) (.c (.P (.I .i64)) .n)))) hi v o k else bif eW f [190]then tj (.Tu (.c (.P r_api_Value) (.c (.P (.I .i64)) (.c (.P (.I .i64)) .n)))) hi v o k else bif eW f [229,231,233]then tj (.Tu (.c (.P r_api_Value) (.c (.P (.I .i64)) .n))) hi v o k else bif eW f [237]then tj (.Tu (.c (.P r_api_Effect) (.c (.P (.I .i64)) .n))) hi v o k else bif eW f [248,249,250]then tj (.Tu (.c (.P (.I .i64)) (.c (.P (.I .i64)) (.c (.P (.I .i64)) .n)))) hi v o k else bif eW f [251,252,304,305]then tj (.Tu (.c (.P (.L 1)) (.c (.P (.I .i64)) (.c (.P (.I .i64)) .n)))) hi v o k else bif eW f [297]then tj (.Tu (.c (.P (.I .i64)) (.c (.P (.I .i64)) .n))) hi v o k else bif eW f [348,371]then tj (.Tu (.c (.P (.I .u64)) (.c (.P (.I .u64)) .n))) hi v o k else k v o
def Ll (z:D)(x:Da)(k:Da->R):R:=match z with| .p (.int i _)=>aJ i x fun n=>k (.int i n)| .p (.bool _)=>aE x fun b=>k (.bool b)| .p (.agg cs)=>k x|_=>k x
def elI (z:Nat)(x:Da)(k:Da->R):R:=bif Nat.beq z 8 then bd x fun t=>k t.e else bif Nat.beq z 3 then aF x fun t=>k t.e else bif Nat.beq z 7 then bg x fun t=>k t.e else bif Nat.beq z 5 then ao x fun t=>k t.e else bif Nat.beq z 4 then bX x fun t=>k t.e else bif Nat.beq z 2 then bv x fun t=>k t.e else bif Nat.beq z 2001 then aJ .i64 x fun i=>k (.int .i64 i)else bif Nat.beq z 1 then aJ .i64 x fun i=>k (.int .i64 i)else bif Nat.beq z 0 then aJ .i64 x fun i=>k (.int .i64 i)else k x
def elS (z:Nat)(x:Da)(k:Da->R):R:=bif Nat.beq z 8 then bd x fun t=>k t.e else bif Nat.beq z 3 then aF x fun t=>k t.e else bif Nat.beq z 7 then bg x fun t=>k t.e else bif Nat.beq z 5 then ao x fun t=>k t.e else bif Nat.beq z 4 then bX x fun t=>k t.e else bif Nat.beq z 2 then bv x fun t=>k t.e else bif Nat.beq z 2001 then dG x fun s=>k (.str s)else bif Nat.beq z 1 then dG x fun s=>k (.str s)else bif Nat.beq z 0 then dG x fun s=>k (.str s)else k x
def elM (z:Nat)(x:Da)(k:Da->R):R:=bif Nat.beq z 8 then bd x fun t=>k t.e else bif Nat.beq z 3 then aF x fun t=>k t.e else bif Nat.beq z 7 then bg x fun t=>k t.e else bif Nat.beq z 5 then aR x fun t=>k t.e else bif Nat.beq z 4 then bX x fun t=>k t.e else bif Nat.beq z 2 then bv x fun t=>k t.e else bif Nat.beq z 2001 then aJ .i64 x fun i=>k (.int .i64 i)else bif Nat.beq z 1 then aJ .i64 x fun i=>k (.int .i64 i)else bif Nat.beq z 0 then aJ .i64 x fun i=>k (.int .i64 i)else k x
def elT (z:Nat)(x:Da)(k:Da->R):R:=bif Nat.beq z 8 then bd x fun t=>k t.e else bif Nat.beq z 3 then aF x fun t=>k t.e else bif Nat.beq z 7 then bg x fun t=>k t.e else bif Nat.beq z 5 then ao x fun t=>k t.e else bif Nat.beq z 4 then bX x fun t=>k t.e else bif Nat.beq z 2 then bv x fun t=>k t.e else bif Nat.beq z 1003 then aW x fun t=>k t.e else bif Nat.beq z 3001 then aW x fun t=>k t.e else bif Nat.beq z 2001 then aW x fun t=>k t.e else bif Nat.beq z 1001 then iL (VF x) (aW x fun t=>k t.e) (aJ .i64 x fun i=>k (.int .i64 i))else bif Nat.beq z 2001 then aJ .i64 x fun i=>k (.int .i64 i)else bif Nat.beq z 1 then aJ .i64 x fun i=>k (.int .i64 i)else bif Nat.beq z 0 then aJ .i64 x fun i=>k (.int .i64 i)else k x
def elZ (z:Nat)(x:Da)(k:Da->R):R:=bif Nat.beq z 8 then bd x fun t=>k t.e else bif Nat.beq z 3 then iL (VH x) (aW x fun t=>k t.e) (aF x fun t=>k t.e)else bif Nat.beq z 7 then bg x fun t=>k t.e else bif Nat.beq z 5 then aR x fun t=>k t.e else bif Nat.beq z 4 then bX x fun t=>k t.e else bif Nat.beq z 2 then bv x fun t=>k t.e else bif Nat.beq z 2001 then aJ .i64 x fun i=>k (.int .i64 i)else bif Nat.beq z 1 then aJ .i64 x fun i=>k (.int .i64 i)else bif Nat.beq z 0 then aJ .i64 x fun i=>k (.int .i64 i)else k x
def elW (z:Nat)(x:Da)(k:Da->R):R:=bif Nat.beq z 8 then bd x fun t=>k t.e else bif Nat.beq z 3 then aF x fun t=>k t.e else bif Nat.beq z 7 then bg x fun t=>k t.e else bif Nat.beq z 5 then ao x fun t=>k t.e else bif Nat.beq z 4 then bX x fun t=>k t.e else bif Nat.beq z 2 then bv x fun t=>k t.e else bif Nat.beq z 2001 then iL (Qq x) (dG x fun s=>k (.str s)) (aJ .i64 x fun i=>k (.int .i64 i))else bif Nat.beq z 1 then iL (Qq x) (dG x fun s=>k (.str s)) (aJ .i64 x fun i=>k (.int .i64 i))else bif Nat.beq z 0 then iL (Qq x) (dG x fun s=>k (.str s)) (aJ .i64 x fun i=>k (.int .i64 i))else k x
def elY (z:Nat)(x:Da)(k:Da->R):R:=bif Nat.beq z 8 then bd x fun t=>k t.e else bif Nat.beq z 3 then aF x fun t=>k t.e else bif Nat.beq z 7 then bg x fun t=>k t.e else bif Nat.beq z 5 then ao x fun t=>k t.e else bif Nat.beq z 4 then bX x fun t=>k t.e else bif Nat.beq z 2 then bv x fun t=>k t.e else bif Nat.beq z 2001 then iL (Dm x) (aE x fun b=>k (.bool b)) (aJ .i64 x fun i=>k (.int .i64 i))else bif Nat.beq z 1 then iL (Dm x) (aE x fun b=>k (.bool b)) (aJ .i64 x fun i=>k (.int .i64 i))else bif Nat.beq z 0 then iL (Dm x) (aE x fun b=>k (.bool b)) (aJ .i64 x fun i=>k (.int .i64 i))else k x
def elV (z:Nat)(x:Da)(k:Da->R):R:=bif Nat.beq z 8 then bd x fun t=>k t.e else bif Nat.beq z 3 then aF x fun t=>k t.e else bif Nat.beq z 7 then bg x fun t=>k t.e else bif Nat.beq z 5 then ao x fun t=>k t.e else bif Nat.beq z 4 then bX x fun t=>k t.e else bif Nat.beq z 2 then bv x fun t=>k t.e else bif Nat.beq z 1005 then ao x fun t=>k t.e else bif Nat.beq z 4001 then ao x fun t=>k t.e else bif Nat.beq z 5001 then ao x fun t=>k t.e else bif Nat.beq z 2001 then aJ .i64 x fun i=>k (.int .i64 i)else bif Nat.beq z 1 then aJ .i64 x fun i=>k (.int .i64 i)else bif Nat.beq z 0 then aJ .i64 x fun i=>k (.int .i64 i)else k x
def elB (z:Nat)(x:Da)(k:Da->R):R:=bif Nat.beq z 8 then bd x fun t=>k t.e else bif Nat.beq z 3 then aF x fun t=>k t.e else bif Nat.beq z 7 then bg x fun t=>k t.e else bif Nat.beq z 5 then ao x fun t=>k t.e else bif Nat.beq z 4 then bX x fun t=>k t.e else bif Nat.beq z 2 then bv x fun t=>k t.e else bif Nat.beq z 2001 then aJ .u8 x fun i=>k (.int .u8 i)else bif Nat.beq z 1 then aJ .u8 x fun i=>k (.int .u8 i)else bif Nat.beq z 0 then aJ .u8 x fun i=>k (.int .u8 i)else k x
def dcI:hR:=⟨elI,Kz,Ll,false,true,false⟩
def aa0:hR:=⟨elI,Kz,Ll,false,false,false⟩
def dcS:hR:=⟨elS,Kz,Ll,false,true,false⟩
def aa1:hR:=⟨elS,Kz,Ll,false,false,false⟩
def dcM:hR:=⟨elM,Kz,Ll,false,true,false⟩
def aa3:hR:=⟨elT,Kz,Ll,false,false,true⟩
def aa2:hR:=⟨elT,Kz,Ll,true,true,true⟩
def dcZ:hR:=⟨elZ,Kz,Ll,false,true,false⟩
def aa5:hR:=⟨elW,Kz,Ll,false,false,false⟩
def dcY:hR:=⟨elY,Kz,Ll,false,true,false⟩
def aa4:hR:=⟨elV,Kz,Ll,false,false,true⟩
def W_:hR:=⟨elV,Kz,Ll,true,false,true⟩
def dcB:hR:=⟨elB,Kz,Ll,false,true,false⟩
def U5 (z:Nat)(x:Da)(k:Da->R):Le (elI z x k) (k x):=by
 unfold elI;exact av (cK fun _ q=>by subst q;exact Le.refl _)<|av (bW fun _ q=>by subst q;exact Le.refl _)<|av (cJ fun _ q=>by subst q;exact Le.refl _)<|av (cr fun _ q=>by subst q;exact Le.refl _)<|av (cw fun _ q=>by subst q;exact Le.refl _)<|av (bF fun _ q=>by subst q;exact Le.refl _)<|av (bO fun _ q=>by subst q;exact Le.refl _)<|av (bO fun _ q=>by subst q;exact Le.refl _)<|av (bO fun _ q=>by subst q;exact Le.refl _)<|Le.refl _
def U6 (z:Nat)(x:Da)(k:Da->R):Le (elS z x k) (k x):=by
 unfold elS;exact av (cK fun _ q=>by subst q;exact Le.refl _)<|av (bW fun _ q=>by subst q;exact Le.refl _)<|av (cJ fun _ q=>by subst q;exact Le.refl _)<|av (cr fun _ q=>by subst q;exact Le.refl _)<|av (cw fun _ q=>by subst q;exact Le.refl _)<|av (bF fun _ q=>by subst q;exact Le.refl _)<|av (jw fun _ q=>by subst q;exact Le.refl _)<|av (jw fun _ q=>by subst q;exact Le.refl _)<|av (jw fun _ q=>by subst q;exact Le.refl _)<|Le.refl _
def ź (z:Nat)(x:Da)(k:Da->R):Le (elM z x k) (k x):=by
 unfold elM;exact av (cK fun _ q=>by subst q;exact Le.refl _)<|av (bW fun _ q=>by subst q;exact Le.refl _)<|av (cJ fun _ q=>by subst q;exact Le.refl _)<|av (jk fun _ q=>by subst q;exact Le.refl _)<|av (cw fun _ q=>by subst q;exact Le.refl _)<|av (bF fun _ q=>by subst q;exact Le.refl _)<|av (bO fun _ q=>by subst q;exact Le.refl _)<|av (bO fun _ q=>by subst q;exact Le.refl _)<|av (bO fun _ q=>by subst q;exact Le.refl _)<|Le.refl _
def U7 (z:Nat)(x:Da)(k:Da->R):Le (elT z x k) (k x):=by
 unfold elT;exact av (cK fun _ q=>by subst q;exact Le.refl _)<|av (bW fun _ q=>by subst q;exact Le.refl _)<|av (cJ fun _ q=>by subst q;exact Le.refl _)<|av (cr fun _ q=>by subst q;exact Le.refl _)<|av (cw fun _ q=>by subst q;exact Le.refl _)<|av (bF fun _ q=>by subst q;exact Le.refl _)<|av (du fun _ q=>by subst q;exact Le.refl _)<|av (du fun _ q=>by subst q;exact Le.refl _)<|av (du fun _ q=>by subst q;exact Le.refl _)<|av (Le.two (fun _=>du fun _ q=>by subst q;exact Le.refl _) (fun _=>bO fun _ q=>by subst q;exact Le.refl _))<|av (bO fun _ q=>by subst q;exact Le.refl _)<|av (bO fun _ q=>by subst q;exact Le.refl _)<|av (bO fun _ q=>by subst q;exact Le.refl _)<|Le.refl _
def Ž (z:Nat)(x:Da)(k:Da->R):Le (elZ z x k) (k x):=by
 unfold elZ;exact av (cK fun _ q=>by subst q;exact Le.refl _)<|av (Le.two (fun _=>du fun _ q=>by subst q;exact Le.refl _) (fun _=>bW fun _ q=>by subst q;exact Le.refl _))<|av (cJ fun _ q=>by subst q;exact Le.refl _)<|av (jk fun _ q=>by subst q;exact Le.refl _)<|av (cw fun _ q=>by subst q;exact Le.refl _)<|av (bF fun _ q=>by subst q;exact Le.refl _)<|av (bO fun _ q=>by subst q;exact Le.refl _)<|av (bO fun _ q=>by subst q;exact Le.refl _)<|av (bO fun _ q=>by subst q;exact Le.refl _)<|Le.refl _
def Ż (z:Nat)(x:Da)(k:Da->R):Le (elW z x k) (k x):=by
 unfold elW;exact av (cK fun _ q=>by subst q;exact Le.refl _)<|av (bW fun _ q=>by subst q;exact Le.refl _)<|av (cJ fun _ q=>by subst q;exact Le.refl _)<|av (cr fun _ q=>by subst q;exact Le.refl _)<|av (cw fun _ q=>by subst q;exact Le.refl _)<|av (bF fun _ q=>by subst q;exact Le.refl _)<|av (Le.two (fun _=>jw fun _ q=>by subst q;exact Le.refl _) (fun _=>bO fun _ q=>by subst q;exact Le.refl _))<|av (Le.two (fun _=>jw fun _ q=>by subst q;exact Le.refl _) (fun _=>bO fun _ q=>by subst q;exact Le.refl _))<|av (Le.two (fun _=>jw fun _ q=>by subst q;exact Le.refl _) (fun _=>bO fun _ q=>by subst q;exact Le.refl _))<|Le.refl _
def ż (z:Nat)(x:Da)(k:Da->R):Le (elY z x k) (k x):=by
 unfold elY;exact av (cK fun _ q=>by subst q;exact Le.refl _)<|av (bW fun _ q=>by subst q;exact Le.refl _)<|av (cJ fun _ q=>by subst q;exact Le.refl _)<|av (cr fun _ q=>by subst q;exact Le.refl _)<|av (cw fun _ q=>by subst q;exact Le.refl _)<|av (bF fun _ q=>by subst q;exact Le.refl _)<|av (Le.two (fun _=>ly fun _ q=>by subst q;exact Le.refl _) (fun _=>bO fun _ q=>by subst q;exact Le.refl _))<|av (Le.two (fun _=>ly fun _ q=>by subst q;exact Le.refl _) (fun _=>bO fun _ q=>by subst q;exact Le.refl _))<|av (Le.two (fun _=>ly fun _ q=>by subst q;exact Le.refl _) (fun _=>bO fun _ q=>by subst q;exact Le.refl _))<|Le.refl _
def U8 (z:Nat)(x:Da)(k:Da->R):Le (elV z x k) (k x):=by
 unfold elV;exact av (cK fun _ q=>by subst q;exact Le.refl _)<|av (bW fun _ q=>by subst q;exact Le.refl _)<|av (cJ fun _ q=>by subst q;exact Le.refl _)<|av (cr fun _ q=>by subst q;exact Le.refl _)<|av (cw fun _ q=>by subst q;exact Le.refl _)<|av (bF fun _ q=>by subst q;exact Le.refl _)<|av (cr fun _ q=>by subst q;exact Le.refl _)<|av (cr fun _ q=>by subst q;exact Le.refl _)<|av (cr fun _ q=>by subst q;exact Le.refl _)<|av (bO fun _ q=>by subst q;exact Le.refl _)<|av (bO fun _ q=>by subst q;exact Le.refl _)<|av (bO fun _ q=>by subst q;exact Le.refl _)<|Le.refl _
def Ź (z:Nat)(x:Da)(k:Da->R):Le (elB z x k) (k x):=by
 unfold elB;exact av (cK fun _ q=>by subst q;exact Le.refl _)<|av (bW fun _ q=>by subst q;exact Le.refl _)<|av (cJ fun _ q=>by subst q;exact Le.refl _)<|av (cr fun _ q=>by subst q;exact Le.refl _)<|av (cw fun _ q=>by subst q;exact Le.refl _)<|av (bF fun _ q=>by subst q;exact Le.refl _)<|av (bO fun _ q=>by subst q;exact Le.refl _)<|av (bO fun _ q=>by subst q;exact Le.refl _)<|av (bO fun _ q=>by subst q;exact Le.refl _)<|Le.refl _
def im (f:Nat)(hi:List Ob)(v:D)(o:List Ob)(k:KV):Le (Kz f hi v o k) (k v o):=by
 unfold Kz;exact av (YN hi v o k)<|av (Nb hi v o k)<|av (Nb hi v o k)<|av (Na hi v o k)<|av (Na hi v o k)<|av (YJ hi v o k)<|av (YL hi v o k)<|av (YM hi v o k)<|av (YK hi v o k)<|av (YH hi v o k)<|av (YI hi v o k)<|av (fZ hi v o k)<|av (fZ hi v o k)<|av (fZ hi v o k)<|av (fZ hi v o k)<|av (fZ hi v o k)<|av (fZ hi v o k)<|av (fZ hi v o k)<|av (fZ hi v o k)<|av (fZ hi v o k)<|av (fZ hi v o k)<|av (fZ hi v o k)<|av (fZ hi v o k)<|av (oF hi v o k)<|av (oF hi v o k)<|av (oF hi v o k)<|av (oF hi v o k)<|av (oF hi v o k)<|av (oF hi v o k)<|av (YG hi v o k)<|av (YF hi v o k)<|av (YE hi v o k)<|av (YC hi v o k)<|av (CS hi v o k)<|av (CS hi v o k)<|av (CS hi v o k)<|av (de hi v o k)<|av (de hi v o k)<|av (de hi v o k)<|av (de hi v o k)<|av (de hi v o k)<|av (de hi v o k)<|av (de hi v o k)<|av (de hi v o k)<|av (tn hi v o k)<|av (de hi v o k)<|av (de hi v o k)<|av (de hi v o k)<|av (tn hi v o k)<|av (de hi v o k)<|av (tn hi v o k)<|av (de hi v o k)<|av (de hi v o k)<|av (de hi v o k)<|av (de hi v o k)<|av (de hi v o k)<|av (tn hi v o k)<|av (tn hi v o k)<|av (tn hi v o k)<|av (de hi v o k)<|av (de hi v o k)<|av (de hi v o k)<|av (de hi v o k)<|av (de hi v o k)<|av (de hi v o k)<|av (de hi v o k)<|av (de hi v o k)<|av (de hi v o k)<|Le.refl _
def iz (z:D)(x:Da)(k:Da->R):Le (Ll z x k) (k x):=by
 unfold Ll;split
 ·exact bO fun _ q=>by subst q;exact Le.refl _
 ·exact ly fun _ q=>by subst q;exact Le.refl _
 ·skip
  exact Le.refl _
 ·exact Le.refl _
def aH:(dcI).Ok:=⟨U5,im,iz⟩
def bY:(aa0).Ok:=⟨U5,im,iz⟩
def gE:(dcS).Ok:=⟨U6,im,iz⟩
def q8:(aa1).Ok:=⟨U6,im,iz⟩
def bS:(dcM).Ok:=⟨ź,im,iz⟩
def vY:(aa2).Ok:=⟨U7,im,iz⟩
def Nn:(aa3).Ok:=⟨U7,im,iz⟩
def UN:(dcZ).Ok:=⟨Ž,im,iz⟩
def CX:(aa5).Ok:=⟨Ż,im,iz⟩
def UM:(dcY).Ok:=⟨ż,im,iz⟩
def vZ:(aa4).Ok:=⟨U8,im,iz⟩
def bN:(W_).Ok:=⟨U8,im,iz⟩
def nE:(dcB).Ok:=⟨Ź,im,iz⟩
def fm (f:Nat):Fx:=(gK prog0 globs0 fN f).getD ⟨.skip,[],false⟩
variable {dc:hR}
def fnT (lp:af->dr)(F:af->R){f n m:Nat}{args:List D}{hp:List Ob}(hd:dc.Ok)(hx:lay0.tab f=some (.code (fm f)))(hm:eH f args hp.length=m)(hl:∀{cc:af} {call:aG},bE cc call->∀e∈cN (fm f).body 1,bn (lp cc) call n m e)(h:∀cc,L7 m (lp cc) dc cc n (fm f) args hp=F cc):Le (F (cq lay0.tab n)) (evFn lay0.tab (n+1) f args hp):=
 aad hd hx hm (hl (Vi _ _)) (h _)
def jh (F:af->R)(f:Nat)(args:List D)(hp:List Ob)(m n:Nat)(hd:dc.Ok)(lp:af->dr){l:List (Nat×LN×Co×Bool)}(hl:∀{cc:af} {call:aG},bE cc call->uj (lp cc) call n m l)(hx:lay0.tab f=some (.code (fm f)):=by kernel_rfl)(hm:eH f args hp.length=m:=by kernel_rfl)(hb:cN (fm f).body 1=l:=by kernel_rfl)(h:∀cc,L7 m (lp cc) dc cc n (fm f) args hp=F cc:=by intro _;kernel_rfl):Le (F (cq lay0.tab n)) (evFn lay0.tab (n+1) f args hp):=
 fnT lp F hd hx hm (fun hc=>M2 hb (hl hc)) h
def cT (F:af->R)(f:Nat)(args:List D)(hp:List Ob)(m n:Nat)(hd:dc.Ok)(hx:lay0.tab f=some (.code (fm f)):=by kernel_rfl)(hm:eH f args hp.length=m:=by kernel_rfl)(hb:cN (fm f).body 1=[]:=by kernel_rfl)(h:∀cc,L7 m c7 dc cc n (fm f) args hp=F cc:=by intro _;kernel_rfl):Le (F (cq lay0.tab n)) (evFn lay0.tab (n+1) f args hp):=
 jh F f args hp m n hd (fun _=>c7) (fun _=>aO) hx hm hb h
section
variable {ST:Type} {q:Nat} {r:Rd eU ST} {lp:dr} {dc:hR} {cc:af} {call:aG} {n m:Nat} {live:LN} {b:Co} {l:List (Nat×LN×Co×Bool)}
def cO {S:JJ->(ST->R)->ST->R}(hd:dc.Ok)(hc:bE cc call)(hin:uj lp call n m l)(hl:cN b q=l:=by kernel_rfl)
  (hS:∀(J:JJ) (Y:ST->R) st,tz lp dc cc n m b q (r.e st).1 (r.e st).2 (fun ex tm hp=>W8 ex (NL m live tm hp fun tm hp=>r.d (tm,hp) Y) (fun i=>J (.exit i) tm hp) (J .ret tm hp))=S J Y st:=by intro _ _ _;kernel_rfl):bn (ga q r S lp) call n m (q,live,b,true):=ϖ hd hc hS (M2 hl hin)
def qr {S:JJ->ST->R}(hd:dc.Ok)(hc:bE cc call)(hin:uj lp call n m l)(hl:cN b (4*q+3)=l:=by kernel_rfl)
  (hS:∀(J:JJ) st,tz lp dc cc n m b (4*q+3) (r.e st).1 (r.e st).2 J=S J st:=by intro _ _;kernel_rfl):bn (DG q r S lp) call n m (q,live,b,false):=Ϙ hd hc hS (M2 hl hin)
def zX {S:JJ->(ST->R)->ST->R}{e:Nat×LN×Co×Bool}(h:bn lp call n m e)(hq:Nat.beq e.1 q=false:=by kernel_rfl):bn (ga q r S lp) call n m e:=ϗ hq h
def ja {S:JJ->ST->R}{e:Nat×LN×Co×Bool}(h:bn lp call n m e)(hq:Nat.beq e.1 q=false:=by kernel_rfl):bn (DG q r S lp) call n m e:=ϙ hq h
end
abbrev Ω:=evFn lay0.tab
end
end Go.Ab
