import Derived.Test.YtlfhmmbmjkadiaaGreatDoorAl
import Derived.Test.YtlfhmmbmjkadiaaGreatDoorAwZ
import Derived.KernelRfl
set_option linter.all false
namespace Go.Ab
open Go
set_option maxRecDepth 100000
instance mvG:Mv:=⟨fun f=>bF f [127,128,180,183,236]⟩
noncomputable def bd (hi o:List Ob)(k:R):R:= @ite _ (o=hi) (Classical.propDecidable _) k none
theorem gY {hi o:List Ob}{k Z:R}(h:o=hi→Le k Z):Le (bd hi o k) Z:=by
 unfold bd;split
 ·rename_i e;exact h e
 ·exact Le.no _
noncomputable def zZ (c d:D)(k:R):R:= @ite _ (d=c) (Classical.propDecidable _) k none
theorem Wj {c d:D}{k Z:R}(h:d=c→Le k Z):Le (zZ c d k) Z:=by
 unfold zZ;split
 ·rename_i e;exact h e
 ·exact Le.no _
theorem ZI (c:D)(k:R):zZ c c k=k:=by
 unfold zZ;exact if_pos rfl
theorem bp (hi:List Ob)(k:R):bd hi hi k=k:=by
 unfold bd;exact if_pos rfl
structure ab where
 Types:List Da
def ab.e (t:ab):Da:= .agg [.slice 3 t.Types]
def ab.b (t:ab):Ob:= .box [.p (.slice 3 t.Types)]
noncomputable def kw (x:Da)(k:ab→R):R:=j5 x fun r0=>au r0 fun c0 r1=>gj 3 c0 fun v0=>aq r1<|k ⟨v0⟩
theorem pK {x:Da}{k:ab→R}{Z:R}(h:∀t:ab,x=t.e→Le (k t) Z):Le (kw x k) Z:=by
 unfold kw;refine dq fun _ q=>?_;subst q;refine ag fun _ _ q=>?_;subst q;refine bX fun _ q=>?_;subst q;refine bj fun q=>?_;subst q;exact h ⟨_⟩ rfl
structure ir where
 Type_:List Nat
 Fields:List Da
def ir.e (t:ir):Da:= .agg [.str t.Type_,.slice 7 t.Fields]
def ir.b (t:ir):Ob:= .box [.p (.str t.Type_),.p (.slice 7 t.Fields)]
noncomputable def mc (x:Da)(k:ir→R):R:=j5 x fun r0=>au r0 fun c0 r1=>gZ c0 fun v0=>au r1 fun c1 r2=>gj 7 c1 fun v1=>aq r2<|k ⟨v0,v1⟩
theorem ru {x:Da}{k:ir→R}{Z:R}(h:∀t:ir,x=t.e→Le (k t) Z):Le (mc x k) Z:=by
 unfold mc;refine dq fun _ q=>?_;subst q;refine ag fun _ _ q=>?_;subst q;refine dr fun _ q=>?_;subst q;refine ag fun _ _ q=>?_;subst q;refine bX fun _ q=>?_;subst q;refine bj fun q=>?_;subst q;exact h ⟨_,_⟩ rfl
structure af where
 Name:List Nat
 Fields:List Da
 Methods:List Da
def af.e (t:af):Da:= .agg [.str t.Name,.slice 7 t.Fields,.slice 4 t.Methods]
def af.b (t:af):Ob:= .box [.p (.str t.Name),.p (.slice 7 t.Fields),.p (.slice 4 t.Methods)]
noncomputable def aM (x:Da)(k:af→R):R:=j5 x fun r0=>au r0 fun c0 r1=>gZ c0 fun v0=>au r1 fun c1 r2=>gj 7 c1 fun v1=>au r2 fun c2 r3=>gj 4 c2 fun v2=>aq r3<|k ⟨v0,v1,v2⟩
theorem eS {x:Da}{k:af→R}{Z:R}(h:∀t:af,x=t.e→Le (k t) Z):Le (aM x k) Z:=by
 unfold aM;refine dq fun _ q=>?_;subst q;refine ag fun _ _ q=>?_;subst q;refine dr fun _ q=>?_;subst q;refine ag fun _ _ q=>?_;subst q;refine bX fun _ q=>?_;subst q;refine ag fun _ _ q=>?_;subst q;refine bX fun _ q=>?_;subst q;refine bj fun q=>?_;subst q;exact h ⟨_,_,_⟩ rfl
structure aK where
 Type_:Int
 Method:Int
 Node:Int
def aK.e (t:aK):Da:= .agg [.int .i64 t.Type_,.int .i64 t.Method,.int .i64 t.Node]
def aK.b (t:aK):Ob:= .box [.p (.int .i64 t.Type_),.p (.int .i64 t.Method),.p (.int .i64 t.Node)]
noncomputable def cf (x:Da)(k:aK→R):R:=j5 x fun r0=>au r0 fun c0 r1=>aQ .i64 c0 fun v0=>au r1 fun c1 r2=>aQ .i64 c1 fun v1=>au r2 fun c2 r3=>aQ .i64 c2 fun v2=>aq r3<|k ⟨v0,v1,v2⟩
theorem mY {x:Da}{k:aK→R}{Z:R}(h:∀t:aK,x=t.e→Le (k t) Z):Le (cf x k) Z:=by
 unfold cf;refine dq fun _ q=>?_;subst q;refine ag fun _ _ q=>?_;subst q;refine bg fun _ q=>?_;subst q;refine ag fun _ _ q=>?_;subst q;refine bg fun _ q=>?_;subst q;refine ag fun _ _ q=>?_;subst q;refine bg fun _ q=>?_;subst q;refine bj fun q=>?_;subst q;exact h ⟨_,_,_⟩ rfl
structure dA where
 Params:List Da
 Result:Int
def dA.e (t:dA):Da:= .agg [.slice 1 t.Params,.int .i64 t.Result]
def dA.b (t:dA):Ob:= .box [.p (.slice 1 t.Params),.p (.int .i64 t.Result)]
noncomputable def dT (x:Da)(k:dA→R):R:=j5 x fun r0=>au r0 fun c0 r1=>gj 1 c0 fun v0=>au r1 fun c1 r2=>aQ .i64 c1 fun v1=>aq r2<|k ⟨v0,v1⟩
theorem vJ {x:Da}{k:dA→R}{Z:R}(h:∀t:dA,x=t.e→Le (k t) Z):Le (dT x k) Z:=by
 unfold dT;refine dq fun _ q=>?_;subst q;refine ag fun _ _ q=>?_;subst q;refine bX fun _ q=>?_;subst q;refine ag fun _ _ q=>?_;subst q;refine bg fun _ q=>?_;subst q;refine bj fun q=>?_;subst q;exact h ⟨_,_⟩ rfl
structure aL where
 Kind:Int
 N:Int
 S:List Nat
 I:List Da
 L:List Da
def aL.e (t:aL):Da:= .agg [.int .i64 t.Kind,.int .i64 t.N,.str t.S,.slice 1 t.I,.slice 1 t.L]
def aL.b (t:aL):Ob:= .box [.p (.int .i64 t.Kind),.p (.int .i64 t.N),.p (.str t.S),.p (.slice 1 t.I),.p (.slice 1 t.L)]
noncomputable def eH (x:Da)(k:aL→R):R:=j5 x fun r0=>au r0 fun c0 r1=>aQ .i64 c0 fun v0=>au r1 fun c1 r2=>aQ .i64 c1 fun v1=>au r2 fun c2 r3=>gZ c2 fun v2=>au r3 fun c3 r4=>gj 1 c3 fun v3=>au r4 fun c4 r5=>gj 1 c4 fun v4=>aq r5<|k ⟨v0,v1,v2,v3,v4⟩
theorem eq {x:Da}{k:aL→R}{Z:R}(h:∀t:aL,x=t.e→Le (k t) Z):Le (eH x k) Z:=by
 unfold eH;refine dq fun _ q=>?_;subst q;refine ag fun _ _ q=>?_;subst q;refine bg fun _ q=>?_;subst q;refine ag fun _ _ q=>?_;subst q;refine bg fun _ q=>?_;subst q;refine ag fun _ _ q=>?_;subst q;refine dr fun _ q=>?_;subst q;refine ag fun _ _ q=>?_;subst q;refine bX fun _ q=>?_;subst q;refine ag fun _ _ q=>?_;subst q;refine bX fun _ q=>?_;subst q;refine bj fun q=>?_;subst q;exact h ⟨_,_,_,_,_⟩ rfl
structure aF where
 Op:Int
 Name:List Nat
 Value_Kind:Int
 Value_N:Int
 Value_S:List Nat
 Value_I:List Da
 Value_L:List Da
 Kids:List Da
def aF.e (t:aF):Da:= .agg [.int .i64 t.Op,.str t.Name,.int .i64 t.Value_Kind,.int .i64 t.Value_N,.str t.Value_S,.slice 1 t.Value_I,.slice 1 t.Value_L,.slice 1 t.Kids]
def aF.b (t:aF):Ob:= .box [.p (.int .i64 t.Op),.p (.str t.Name),.p (.int .i64 t.Value_Kind),.p (.int .i64 t.Value_N),.p (.str t.Value_S),.p (.slice 1 t.Value_I),.p (.slice 1 t.Value_L),.p (.slice 1 t.Kids)]
noncomputable def aI (x:Da)(k:aF→R):R:=j5 x fun r0=>au r0 fun c0 r1=>aQ .i64 c0 fun v0=>au r1 fun c1 r2=>gZ c1 fun v1=>au r2 fun c2 r3=>aQ .i64 c2 fun v2=>au r3 fun c3 r4=>aQ .i64 c3 fun v3=>au r4 fun c4 r5=>gZ c4 fun v4=>au r5 fun c5 r6=>gj 1 c5 fun v5=>au r6 fun c6 r7=>gj 1 c6 fun v6=>au r7 fun c7 r8=>gj 1 c7 fun v7=>aq r8<|k ⟨v0,v1,v2,v3,v4,v5,v6,v7⟩
theorem ku {x:Da}{k:aF→R}{Z:R}(h:∀t:aF,x=t.e→Le (k t) Z):Le (aI x k) Z:=by
 unfold aI;refine dq fun _ q=>?_;subst q;refine ag fun _ _ q=>?_;subst q;refine bg fun _ q=>?_;subst q;refine ag fun _ _ q=>?_;subst q;refine dr fun _ q=>?_;subst q;refine ag fun _ _ q=>?_;subst q;refine bg fun _ q=>?_;subst q;refine ag fun _ _ q=>?_;subst q;refine bg fun _ q=>?_;subst q;refine ag fun _ _ q=>?_;subst q;refine dr fun _ q=>?_;subst q;refine ag fun _ _ q=>?_;subst q;refine bX fun _ q=>?_;subst q;refine ag fun _ _ q=>?_;subst q;refine bX fun _ q=>?_;subst q;refine ag fun _ _ q=>?_;subst q;refine bX fun _ q=>?_;subst q;refine bj fun q=>?_;subst q;exact h ⟨_,_,_,_,_,_,_,_⟩ rfl
structure ah where
 Name:List Nat
 Params:List Da
 Result:Int
 Nodes:List Da
def ah.e (t:ah):Da:= .agg [.str t.Name,.slice 2 t.Params,.int .i64 t.Result,.slice 8 t.Nodes]
def ah.b (t:ah):Ob:= .box [.p (.str t.Name),.p (.slice 2 t.Params),.p (.int .i64 t.Result),.p (.slice 8 t.Nodes)]
noncomputable def bk (x:Da)(k:ah→R):R:=j5 x fun r0=>au r0 fun c0 r1=>gZ c0 fun v0=>au r1 fun c1 r2=>gj 2 c1 fun v1=>au r2 fun c2 r3=>aQ .i64 c2 fun v2=>au r3 fun c3 r4=>gj 8 c3 fun v3=>aq r4<|k ⟨v0,v1,v2,v3⟩
theorem dS {x:Da}{k:ah→R}{Z:R}(h:∀t:ah,x=t.e→Le (k t) Z):Le (bk x k) Z:=by
 unfold bk;refine dq fun _ q=>?_;subst q;refine ag fun _ _ q=>?_;subst q;refine dr fun _ q=>?_;subst q;refine ag fun _ _ q=>?_;subst q;refine bX fun _ q=>?_;subst q;refine ag fun _ _ q=>?_;subst q;refine bg fun _ q=>?_;subst q;refine ag fun _ _ q=>?_;subst q;refine bX fun _ q=>?_;subst q;refine bj fun q=>?_;subst q;exact h ⟨_,_,_,_⟩ rfl
structure bW where
 Name:List Nat
 Kind:Int
 Init_Kind:Int
 Init_N:Int
 Init_S:List Nat
 Init_I:List Da
 Init_L:List Da
def bW.e (t:bW):Da:= .agg [.str t.Name,.int .i64 t.Kind,.int .i64 t.Init_Kind,.int .i64 t.Init_N,.str t.Init_S,.slice 1 t.Init_I,.slice 1 t.Init_L]
def bW.b (t:bW):Ob:= .box [.p (.str t.Name),.p (.int .i64 t.Kind),.p (.int .i64 t.Init_Kind),.p (.int .i64 t.Init_N),.p (.str t.Init_S),.p (.slice 1 t.Init_I),.p (.slice 1 t.Init_L)]
noncomputable def bR (x:Da)(k:bW→R):R:=j5 x fun r0=>au r0 fun c0 r1=>gZ c0 fun v0=>au r1 fun c1 r2=>aQ .i64 c1 fun v1=>au r2 fun c2 r3=>aQ .i64 c2 fun v2=>au r3 fun c3 r4=>aQ .i64 c3 fun v3=>au r4 fun c4 r5=>gZ c4 fun v4=>au r5 fun c5 r6=>gj 1 c5 fun v5=>au r6 fun c6 r7=>gj 1 c6 fun v6=>aq r7<|k ⟨v0,v1,v2,v3,v4,v5,v6⟩
theorem f0 {x:Da}{k:bW→R}{Z:R}(h:∀t:bW,x=t.e→Le (k t) Z):Le (bR x k) Z:=by
 unfold bR;refine dq fun _ q=>?_;subst q;refine ag fun _ _ q=>?_;subst q;refine dr fun _ q=>?_;subst q;refine ag fun _ _ q=>?_;subst q;refine bg fun _ q=>?_;subst q;refine ag fun _ _ q=>?_;subst q;refine bg fun _ q=>?_;subst q;refine ag fun _ _ q=>?_;subst q;refine bg fun _ q=>?_;subst q;refine ag fun _ _ q=>?_;subst q;refine dr fun _ q=>?_;subst q;refine ag fun _ _ q=>?_;subst q;refine bX fun _ q=>?_;subst q;refine ag fun _ _ q=>?_;subst q;refine bX fun _ q=>?_;subst q;refine bj fun q=>?_;subst q;exact h ⟨_,_,_,_,_,_,_⟩ rfl
structure cS where
 Name:List Nat
 Kind:Int
def cS.e (t:cS):Da:= .agg [.str t.Name,.int .i64 t.Kind]
def cS.b (t:cS):Ob:= .box [.p (.str t.Name),.p (.int .i64 t.Kind)]
noncomputable def bH (x:Da)(k:cS→R):R:=j5 x fun r0=>au r0 fun c0 r1=>gZ c0 fun v0=>au r1 fun c1 r2=>aQ .i64 c1 fun v1=>aq r2<|k ⟨v0,v1⟩
theorem mX {x:Da}{k:cS→R}{Z:R}(h:∀t:cS,x=t.e→Le (k t) Z):Le (bH x k) Z:=by
 unfold bH;refine dq fun _ q=>?_;subst q;refine ag fun _ _ q=>?_;subst q;refine dr fun _ q=>?_;subst q;refine ag fun _ _ q=>?_;subst q;refine bg fun _ q=>?_;subst q;refine bj fun q=>?_;subst q;exact h ⟨_,_⟩ rfl
structure eR where
 Type_:List Nat
 Rules:List Da
def eR.e (t:eR):Da:= .agg [.str t.Type_,.slice 8 t.Rules]
def eR.b (t:eR):Ob:= .box [.p (.str t.Type_),.p (.slice 8 t.Rules)]
noncomputable def jC (x:Da)(k:eR→R):R:=j5 x fun r0=>au r0 fun c0 r1=>gZ c0 fun v0=>au r1 fun c1 r2=>gj 8 c1 fun v1=>aq r2<|k ⟨v0,v1⟩
theorem oq {x:Da}{k:eR→R}{Z:R}(h:∀t:eR,x=t.e→Le (k t) Z):Le (jC x k) Z:=by
 unfold jC;refine dq fun _ q=>?_;subst q;refine ag fun _ _ q=>?_;subst q;refine dr fun _ q=>?_;subst q;refine ag fun _ _ q=>?_;subst q;refine bX fun _ q=>?_;subst q;refine bj fun q=>?_;subst q;exact h ⟨_,_⟩ rfl
structure bO where
 Kind:Int
 Slot:Int
 Field:Bool
 OK:Bool
def bO.e (t:bO):Da:= .agg [.int .i64 t.Kind,.int .i64 t.Slot,.bool t.Field,.bool t.OK]
def bO.b (t:bO):Ob:= .box [.p (.int .i64 t.Kind),.p (.int .i64 t.Slot),.p (.bool t.Field),.p (.bool t.OK)]
noncomputable def bP (x:Da)(k:bO→R):R:=j5 x fun r0=>au r0 fun c0 r1=>aQ .i64 c0 fun v0=>au r1 fun c1 r2=>aQ .i64 c1 fun v1=>au r2 fun c2 r3=>az c2 fun v2=>au r3 fun c3 r4=>az c3 fun v3=>aq r4<|k ⟨v0,v1,v2,v3⟩
theorem lD {x:Da}{k:bO→R}{Z:R}(h:∀t:bO,x=t.e→Le (k t) Z):Le (bP x k) Z:=by
 unfold bP;refine dq fun _ q=>?_;subst q;refine ag fun _ _ q=>?_;subst q;refine bg fun _ q=>?_;subst q;refine ag fun _ _ q=>?_;subst q;refine bg fun _ q=>?_;subst q;refine ag fun _ _ q=>?_;subst q;refine cj fun _ q=>?_;subst q;refine ag fun _ _ q=>?_;subst q;refine cj fun _ q=>?_;subst q;refine bj fun q=>?_;subst q;exact h ⟨_,_,_,_⟩ rfl
structure bD where
 kind:Int
 slot:Int
 field:Bool
def bD.e (t:bD):Da:= .agg [.int .i64 t.kind,.int .i64 t.slot,.bool t.field]
def bD.b (t:bD):Ob:= .box [.p (.int .i64 t.kind),.p (.int .i64 t.slot),.p (.bool t.field)]
noncomputable def aT (x:Da)(k:bD→R):R:=j5 x fun r0=>au r0 fun c0 r1=>aQ .i64 c0 fun v0=>au r1 fun c1 r2=>aQ .i64 c1 fun v1=>au r2 fun c2 r3=>az c2 fun v2=>aq r3<|k ⟨v0,v1,v2⟩
theorem gx {x:Da}{k:bD→R}{Z:R}(h:∀t:bD,x=t.e→Le (k t) Z):Le (aT x k) Z:=by
 unfold aT;refine dq fun _ q=>?_;subst q;refine ag fun _ _ q=>?_;subst q;refine bg fun _ q=>?_;subst q;refine ag fun _ _ q=>?_;subst q;refine bg fun _ q=>?_;subst q;refine ag fun _ _ q=>?_;subst q;refine cj fun _ q=>?_;subst q;refine bj fun q=>?_;subst q;exact h ⟨_,_,_⟩ rfl
structure dJ where
 locals:List Da
 kinds:Da
 variables:Da
def dJ.e (t:dJ):Da:= .agg [.slice 2 t.locals,t.kinds,t.variables]
def dJ.b (t:dJ):Ob:= .box [.p (.slice 2 t.locals),.p (t.kinds),.p (t.variables)]
noncomputable def gl (x:Da)(k:dJ→R):R:=j5 x fun r0=>au r0 fun c0 r1=>gj 2 c0 fun v0=>au r1 fun c1 r2=>au r2 fun c2 r3=>aq r3<|k ⟨v0,c1,c2⟩
theorem rx {x:Da}{k:dJ→R}{Z:R}(h:∀t:dJ,x=t.e→Le (k t) Z):Le (gl x k) Z:=by
 unfold gl;refine dq fun _ q=>?_;subst q;refine ag fun _ _ q=>?_;subst q;refine bX fun _ q=>?_;subst q;refine ag fun _ _ q=>?_;subst q;refine ag fun _ _ q=>?_;subst q;refine bj fun q=>?_;subst q;exact h ⟨_,_,_⟩ rfl
structure j2 where
 Kind:Int
 Text:List Nat
 Num:Int
 At:Int
def j2.e (t:j2):Da:= .agg [.int .i64 t.Kind,.str t.Text,.int .i64 t.Num,.int .i64 t.At]
def j2.b (t:j2):Ob:= .box [.p (.int .i64 t.Kind),.p (.str t.Text),.p (.int .i64 t.Num),.p (.int .i64 t.At)]
noncomputable def lr (x:Da)(k:j2→R):R:=j5 x fun r0=>au r0 fun c0 r1=>aQ .i64 c0 fun v0=>au r1 fun c1 r2=>gZ c1 fun v1=>au r2 fun c2 r3=>aQ .i64 c2 fun v2=>au r3 fun c3 r4=>aQ .i64 c3 fun v3=>aq r4<|k ⟨v0,v1,v2,v3⟩
theorem mZ {x:Da}{k:j2→R}{Z:R}(h:∀t:j2,x=t.e→Le (k t) Z):Le (lr x k) Z:=by
 unfold lr;refine dq fun _ q=>?_;subst q;refine ag fun _ _ q=>?_;subst q;refine bg fun _ q=>?_;subst q;refine ag fun _ _ q=>?_;subst q;refine dr fun _ q=>?_;subst q;refine ag fun _ _ q=>?_;subst q;refine bg fun _ q=>?_;subst q;refine ag fun _ _ q=>?_;subst q;refine bg fun _ q=>?_;subst q;refine bj fun q=>?_;subst q;exact h ⟨_,_,_,_⟩ rfl
structure co where
 params:List Da
 result:Int
def co.e (t:co):Da:= .agg [.slice 1 t.params,.int .i64 t.result]
def co.b (t:co):Ob:= .box [.p (.slice 1 t.params),.p (.int .i64 t.result)]
noncomputable def dY (x:Da)(k:co→R):R:=j5 x fun r0=>au r0 fun c0 r1=>gj 1 c0 fun v0=>au r1 fun c1 r2=>aQ .i64 c1 fun v1=>aq r2<|k ⟨v0,v1⟩
theorem sJ {x:Da}{k:co→R}{Z:R}(h:∀t:co,x=t.e→Le (k t) Z):Le (dY x k) Z:=by
 unfold dY;refine dq fun _ q=>?_;subst q;refine ag fun _ _ q=>?_;subst q;refine bX fun _ q=>?_;subst q;refine ag fun _ _ q=>?_;subst q;refine bg fun _ q=>?_;subst q;refine bj fun q=>?_;subst q;exact h ⟨_,_⟩ rfl
structure eC where
 pr:List Da
 fk:List Da
 fv:List Da
 ns:List Da
 re:Int
 ln:Nat
 nd:Int
 er:Int
 sk:List Da
 sv:List Da
 lk:List Da
 lv:List Da
 lo:List Da
 kk:List Da
 kv:List Da
 vk:List Da
 vv:List Da
def eC.hp (c:eC):List Ob:=[.box [.p (.slice 3 c.pr),.p (.map c.fk c.fv),.map 1,.map 2,.p (.slice 8 c.ns),.p (.int .i64 c.re),.arr 3 0 c.ln 2,.map 4,.map 5,.p (.int .i64 c.nd),.p (.int .i64 c.er)],.map c.sk c.sv,.map c.lk c.lv,.arr c.lo,.map c.kk c.kv,.map c.vk c.vv]
noncomputable def aR (o:List Ob)(k:eC→R):R:=au o fun a1 r2=>WN a1 fun l3=>au l3 fun d4 l5=>dP d4 fun x6=>gj 3 x6 fun pr=>au l5 fun d7 l8=>dP d7 fun x9=>rK x9 fun fk fv=>au l8 fun d10 l11=>dMp 1 d10<|au l11 fun d12 l13=>dMp 2 d12<|au l13 fun d14 l15=>dP d14 fun x16=>gj 8 x16 fun ns=>au l15 fun d17 l18=>dP d17 fun x19=>aQ .i64 x19 fun re=>au l18 fun d20 l21=>Wh 3 2 d20 fun ln=>au l21 fun d22 l23=>dMp 4 d22<|au l23 fun d24 l25=>dMp 5 d24<|au l25 fun d26 l27=>dP d26 fun x28=>aQ .i64 x28 fun nd=>au l27 fun d29 l30=>dP d29 fun x31=>aQ .i64 x31 fun er=>aq l30<|au r2 fun a32 r33=>Sa a32 fun sk sv=>au r33 fun a34 r35=>Sa a34 fun lk lv=>au r35 fun a36 r37=>O4 a36 fun lo=>au r37 fun a38 r39=>Sa a38 fun kk kv=>au r39 fun a40 r41=>Sa a40 fun vk vv=>aq r41<|k ⟨pr,fk,fv,ns,re,ln,nd,er,sk,sv,lk,lv,lo,kk,kv,vk,vv⟩
theorem xi {o:List Ob}{k:eC→R}{Z:R}(h:∀c:eC,o=c.hp→Le (k c) Z):Le (aR o k) Z:=by
 unfold aR;refine ag fun _ _ q=>?_;subst q;refine yc fun _ q=>?_;subst q;refine ag fun _ _ q=>?_;subst q;refine bc fun _ q=>?_;subst q;refine bX fun _ q=>?_;subst q;refine ag fun _ _ q=>?_;subst q;refine bc fun _ q=>?_;subst q;refine xg fun _ _ q=>?_;subst q;refine ag fun _ _ q=>?_;subst q;refine vI fun q=>?_;subst q;refine ag fun _ _ q=>?_;subst q;refine vI fun q=>?_;subst q;refine ag fun _ _ q=>?_;subst q;refine bc fun _ q=>?_;subst q;refine bX fun _ q=>?_;subst q;refine ag fun _ _ q=>?_;subst q;refine bc fun _ q=>?_;subst q;refine bg fun _ q=>?_;subst q;refine ag fun _ _ q=>?_;subst q;refine xf fun _ q=>?_;subst q;refine ag fun _ _ q=>?_;subst q;refine vI fun q=>?_;subst q;refine ag fun _ _ q=>?_;subst q;refine vI fun q=>?_;subst q;refine ag fun _ _ q=>?_;subst q;refine bc fun _ q=>?_;subst q;refine bg fun _ q=>?_;subst q;refine ag fun _ _ q=>?_;subst q;refine bc fun _ q=>?_;subst q;refine bg fun _ q=>?_;subst q;refine bj fun q=>?_;subst q;refine ag fun _ _ q=>?_;subst q;refine ua fun _ _ q=>?_;subst q;refine ag fun _ _ q=>?_;subst q;refine ua fun _ _ q=>?_;subst q;refine ag fun _ _ q=>?_;subst q;refine yb fun _ q=>?_;subst q;refine ag fun _ _ q=>?_;subst q;refine ua fun _ _ q=>?_;subst q;refine ag fun _ _ q=>?_;subst q;refine ua fun _ _ q=>?_;subst q;refine bj fun q=>?_;subst q;exact h ⟨_,_,_,_,_,_,_,_,_,_,_,_,_,_,_,_,_⟩ rfl
noncomputable def Iz:Rd (List Ob) eC:=⟨eC.hp,aR,fun _ _ _ H=>xi fun t q=>by subst q;exact H t⟩
structure lR where
 ty:List Da
 bn:Nat
 bs:List Da
def lR.hp (c:lR):List Ob:=[.box [.p (.slice 3 c.ty),.arr 1 0 c.bn 1],.arr c.bs]
noncomputable def Bd (o:List Ob)(k:lR→R):R:=au o fun a1 r2=>WN a1 fun l3=>au l3 fun d4 l5=>dP d4 fun x6=>gj 3 x6 fun ty=>au l5 fun d7 l8=>Wh 1 1 d7 fun bn=>aq l8<|au r2 fun a9 r10=>O4 a9 fun bs=>aq r10<|k ⟨ty,bn,bs⟩
theorem ZK {o:List Ob}{k:lR→R}{Z:R}(h:∀c:lR,o=c.hp→Le (k c) Z):Le (Bd o k) Z:=by
 unfold Bd;refine ag fun _ _ q=>?_;subst q;refine yc fun _ q=>?_;subst q;refine ag fun _ _ q=>?_;subst q;refine bc fun _ q=>?_;subst q;refine bX fun _ q=>?_;subst q;refine ag fun _ _ q=>?_;subst q;refine xf fun _ q=>?_;subst q;refine bj fun q=>?_;subst q;refine ag fun _ _ q=>?_;subst q;refine yb fun _ q=>?_;subst q;refine bj fun q=>?_;subst q;exact h ⟨_,_,_⟩ rfl
structure ww where
 ts:List Da
 tn:List Nat
 tf:List Da
 tm:List Da
 mn:List Nat
 mp:List Da
 mr:Int
 ns:List Da
 ps:List Da
 ln:Nat
 ks:List Da
def ww.hp (c:ww):List Ob:=[.box [.p (.slice 3 c.ts),.p (.str c.tn),.p (.slice 7 c.tf),.p (.slice 4 c.tm),.p (.str c.mn),.p (.slice 2 c.mp),.p (.int .i64 c.mr),.p (.slice 8 c.ns),.p (.slice 1 c.ps),.arr 1 0 c.ln 1],.arr c.ks]
noncomputable def xh (o:List Ob)(k:ww→R):R:=au o fun a1 r2=>WN a1 fun l3=>au l3 fun d4 l5=>dP d4 fun x6=>gj 3 x6 fun ts=>au l5 fun d7 l8=>dP d7 fun x9=>gZ x9 fun tn=>au l8 fun d10 l11=>dP d10 fun x12=>gj 7 x12 fun tf=>au l11 fun d13 l14=>dP d13 fun x15=>gj 4 x15 fun tm=>au l14 fun d16 l17=>dP d16 fun x18=>gZ x18 fun mn=>au l17 fun d19 l20=>dP d19 fun x21=>gj 2 x21 fun mp=>au l20 fun d22 l23=>dP d22 fun x24=>aQ .i64 x24 fun mr=>au l23 fun d25 l26=>dP d25 fun x27=>gj 8 x27 fun ns=>au l26 fun d28 l29=>dP d28 fun x30=>gj 1 x30 fun ps=>au l29 fun d31 l32=>Wh 1 1 d31 fun ln=>aq l32<|au r2 fun a33 r34=>O4 a33 fun ks=>aq r34<|k ⟨ts,tn,tf,tm,mn,mp,mr,ns,ps,ln,ks⟩
theorem Ew {o:List Ob}{k:ww→R}{Z:R}(h:∀c:ww,o=c.hp→Le (k c) Z):Le (xh o k) Z:=by
 unfold xh;refine ag fun _ _ q=>?_;subst q;refine yc fun _ q=>?_;subst q;refine ag fun _ _ q=>?_;subst q;refine bc fun _ q=>?_;subst q;refine bX fun _ q=>?_;subst q;refine ag fun _ _ q=>?_;subst q;refine bc fun _ q=>?_;subst q;refine dr fun _ q=>?_;subst q;refine ag fun _ _ q=>?_;subst q;refine bc fun _ q=>?_;subst q;refine bX fun _ q=>?_;subst q;refine ag fun _ _ q=>?_;subst q;refine bc fun _ q=>?_;subst q;refine bX fun _ q=>?_;subst q;refine ag fun _ _ q=>?_;subst q;refine bc fun _ q=>?_;subst q;refine dr fun _ q=>?_;subst q;refine ag fun _ _ q=>?_;subst q;refine bc fun _ q=>?_;subst q;refine bX fun _ q=>?_;subst q;refine ag fun _ _ q=>?_;subst q;refine bc fun _ q=>?_;subst q;refine bg fun _ q=>?_;subst q;refine ag fun _ _ q=>?_;subst q;refine bc fun _ q=>?_;subst q;refine bX fun _ q=>?_;subst q;refine ag fun _ _ q=>?_;subst q;refine bc fun _ q=>?_;subst q;refine bX fun _ q=>?_;subst q;refine ag fun _ _ q=>?_;subst q;refine xf fun _ q=>?_;subst q;refine bj fun q=>?_;subst q;refine ag fun _ _ q=>?_;subst q;refine yb fun _ q=>?_;subst q;refine bj fun q=>?_;subst q;exact h ⟨_,_,_,_,_,_,_,_,_,_,_⟩ rfl
noncomputable def agj (hi:List Ob)(v:D)(o:List Ob)(k:KV):R:=dMp 1 v<|bd (hi++hi) o<|k (.map 1) (hi++hi)
theorem ac5 (hi:List Ob)(v:D)(o:List Ob)(k:KV):Le (agj hi v o k) (k v o):=by
 unfold agj;refine vI fun q=>?_;subst q;exact gY fun q=>by subst q;exact Le.refl _
noncomputable def acr:D:=(.p (.map [.str [108,101,110],.str [97,116],.str [97,112,112,101,110,100],.str [115,101,116],.str [115,116,114]] [.slice 2 [.agg [.slice 1 [.int .i64 3],.int .i64 1],.agg [.slice 1 [.int .i64 4],.int .i64 1],.agg [.slice 1 [.int .i64 5],.int .i64 1]],.slice 2 [.agg [.slice 1 [.int .i64 4,.int .i64 1],.int .i64 1],.agg [.slice 1 [.int .i64 5,.int .i64 1],.int .i64 3]],.slice 2 [.agg [.slice 1 [.int .i64 4,.int .i64 1],.int .i64 4],.agg [.slice 1 [.int .i64 5,.int .i64 3],.int .i64 5]],.slice 2 [.agg [.slice 1 [.int .i64 4,.int .i64 1,.int .i64 1],.int .i64 4],.agg [.slice 1 [.int .i64 5,.int .i64 1,.int .i64 3],.int .i64 5]],.slice 2 [.agg [.slice 1 [.int .i64 1],.int .i64 3]]]))
noncomputable def agi (hi:List Ob)(v:D)(o:List Ob)(k:KV):R:=zZ acr v<|bd [] o<|k acr []
theorem ac4 (hi:List Ob)(v:D)(o:List Ob)(k:KV):Le (agi hi v o k) (k v o):=by
 unfold agi;refine Wj fun q=>?_;subst q;exact gY fun q=>by subst q;exact Le.refl _
def vS:D→Bool| .box _ _=>true|_=>false
noncomputable def agf (hi:List Ob)(v:D)(o:List Ob)(k:KV):R:=aY v fun r0=>au r0 fun d0 r1=>au r1 fun d1 r2=>dP d1 fun x1=>cf x1 fun a1=>au r2 fun d2 r3=>dP d2 fun x2=>aQ .i64 x2 fun a2=>aq r3<|iL (vS d0) (GJ 0 0 d0<|Bd o fun c=>k (.tup [.box 0 0,.p a1.e,.p (.int .i64 a2)]) c.hp) (dP d0 fun x0=>dNp x0<|aq o<|k (.tup [.p .nilptr,.p a1.e,.p (.int .i64 a2)]) [])
theorem ac2 (hi:List Ob)(v:D)(o:List Ob)(k:KV):Le (agf hi v o k) (k v o):=by
 unfold agf;refine cC fun _ q=>?_;subst q;refine ag fun d0 _ q=>?_;subst q;refine ag fun _ _ q=>?_;subst q;refine bc fun _ q=>?_;subst q;refine mY fun _ q=>?_;subst q;refine ag fun _ _ q=>?_;subst q;refine bc fun _ q=>?_;subst q;refine bg fun _ q=>?_;subst q;refine bj fun q=>?_;subst q
 refine Le.two (fun _=>?_) (fun _=>?_)
 ·refine JV fun q=>?_;subst q;exact ZK fun c q=>by subst q;exact Le.refl _
 ·refine bc fun _ q=>?_;subst q;refine ZG fun q=>?_;subst q;refine bj fun q=>?_;subst q;exact Le.refl _
def RO:Da→Bool| .nilmap=>true|_=>false
noncomputable def agh (hi:List Ob)(v:D)(o:List Ob)(k:KV):R:=aY v fun r0=>au r0 fun d0 r1=>au r1 fun d1 r2=>dP d0 fun x0=>j5 x0 fun l0=>au l0 fun y0 l1=>gj 2 y0 fun lo=>au l1 fun y1 l2=>au l2 fun y2 l3=>aq l3<|dP d1 fun x1=>az x1 fun b=>aq r2<|bd hi o<|iL (RO y1) (NL y1<|NL y2<|k (.tup [.p (.agg [.slice 2 lo,.nilmap,.nilmap]),.p (.bool b)]) hi) (rK y1 fun kk kv=>rK y2 fun vk vv=>k (.tup [.p (.agg [.slice 2 lo,.map kk kv,.map vk vv]),.p (.bool b)]) hi)
theorem ac3 (hi:List Ob)(v:D)(o:List Ob)(k:KV):Le (agh hi v o k) (k v o):=by
 unfold agh;refine cC fun _ q=>?_;subst q;refine ag fun _ _ q=>?_;subst q;refine ag fun _ _ q=>?_;subst q;refine bc fun _ q=>?_;subst q;refine dq fun _ q=>?_;subst q;refine ag fun _ _ q=>?_;subst q;refine bX fun _ q=>?_;subst q;refine ag fun _ _ q=>?_;subst q;refine ag fun _ _ q=>?_;subst q;refine bj fun q=>?_;subst q;refine bc fun _ q=>?_;subst q;refine cj fun _ q=>?_;subst q;refine bj fun q=>?_;subst q;refine gY fun q=>?_;subst q
 refine Le.two (fun _=>?_) (fun _=>?_)
 ·refine JW fun q=>?_;subst q;refine JW fun q=>?_;subst q;exact Le.refl _
 ·refine xg fun _ _ q=>?_;subst q;refine xg fun _ _ q=>?_;subst q;exact Le.refl _
noncomputable def ca0 (hi:List Ob)(v:D)(o:List Ob)(k:KV):R:=aY v fun r0=>aq r0<|bZ hi o fun o=>k (.tup []) o
theorem afI (hi:List Ob)(v:D)(o:List Ob)(k:KV):Le (ca0 hi v o k) (k v o):=by
 unfold ca0;refine cC fun _ q=>?_;subst q;refine bj fun q=>?_;subst q;exact bo hi o (Le.refl _)
noncomputable def ca3 (hi:List Ob)(v:D)(o:List Ob)(k:KV):R:=dP v fun x0=>az x0 fun a0=>bZ hi o fun o=>k (.p (.bool a0)) o
theorem afX (hi:List Ob)(v:D)(o:List Ob)(k:KV):Le (ca3 hi v o k) (k v o):=by
 unfold ca3;refine bc fun _ q=>?_;subst q;refine cj fun _ q=>?_;subst q;exact bo hi o (Le.refl _)
noncomputable def ca9 (hi:List Ob)(v:D)(o:List Ob)(k:KV):R:=dP v fun x0=>gj 2 x0 fun a0=>bZ hi o fun o=>k (.p (.slice 2 a0)) o
theorem age (hi:List Ob)(v:D)(o:List Ob)(k:KV):Le (ca9 hi v o k) (k v o):=by
 unfold ca9;refine bc fun _ q=>?_;subst q;refine bX fun _ q=>?_;subst q;exact bo hi o (Le.refl _)
noncomputable def afJ (hi:List Ob)(v:D)(o:List Ob)(k:KV):R:=aY v fun r0=>au r0 fun d0 r1=>dP d0 fun x0=>mc x0 fun a0=>au r1 fun d1 r2=>dP d1 fun x1=>az x1 fun a1=>aq r2<|bZ hi o fun o=>k (.tup [.p (a0.e),.p (.bool a1)]) o
theorem acy (hi:List Ob)(v:D)(o:List Ob)(k:KV):Le (afJ hi v o k) (k v o):=by
 unfold afJ;refine cC fun _ q=>?_;subst q;refine ag fun _ _ q=>?_;subst q;refine bc fun _ q=>?_;subst q;refine ru fun _ q=>?_;subst q;refine ag fun _ _ q=>?_;subst q;refine bc fun _ q=>?_;subst q;refine cj fun _ q=>?_;subst q;refine bj fun q=>?_;subst q;exact bo hi o (Le.refl _)
noncomputable def afK (hi:List Ob)(v:D)(o:List Ob)(k:KV):R:=dP v fun x0=>kw x0 fun a0=>bZ hi o fun o=>k (.p (a0.e)) o
theorem acz (hi:List Ob)(v:D)(o:List Ob)(k:KV):Le (afK hi v o k) (k v o):=by
 unfold afK;refine bc fun _ q=>?_;subst q;refine pK fun _ q=>?_;subst q;exact bo hi o (Le.refl _)
noncomputable def afL (hi:List Ob)(v:D)(o:List Ob)(k:KV):R:=aY v fun r0=>au r0 fun d0 r1=>dP d0 fun x0=>cf x0 fun a0=>au r1 fun d1 r2=>dP d1 fun x1=>aQ .i64 x1 fun a1=>aq r2<|bZ hi o fun o=>k (.tup [.p (a0.e),.p (.int .i64 a1)]) o
theorem acA (hi:List Ob)(v:D)(o:List Ob)(k:KV):Le (afL hi v o k) (k v o):=by
 unfold afL;refine cC fun _ q=>?_;subst q;refine ag fun _ _ q=>?_;subst q;refine bc fun _ q=>?_;subst q;refine mY fun _ q=>?_;subst q;refine ag fun _ _ q=>?_;subst q;refine bc fun _ q=>?_;subst q;refine bg fun _ q=>?_;subst q;refine bj fun q=>?_;subst q;exact bo hi o (Le.refl _)
noncomputable def afM (hi:List Ob)(v:D)(o:List Ob)(k:KV):R:=aY v fun r0=>au r0 fun d0 r1=>dP d0 fun x0=>dT x0 fun a0=>au r1 fun d1 r2=>dP d1 fun x1=>az x1 fun a1=>aq r2<|bZ hi o fun o=>k (.tup [.p (a0.e),.p (.bool a1)]) o
theorem acB (hi:List Ob)(v:D)(o:List Ob)(k:KV):Le (afM hi v o k) (k v o):=by
 unfold afM;refine cC fun _ q=>?_;subst q;refine ag fun _ _ q=>?_;subst q;refine bc fun _ q=>?_;subst q;refine vJ fun _ q=>?_;subst q;refine ag fun _ _ q=>?_;subst q;refine bc fun _ q=>?_;subst q;refine cj fun _ q=>?_;subst q;refine bj fun q=>?_;subst q;exact bo hi o (Le.refl _)
noncomputable def afN (hi:List Ob)(v:D)(o:List Ob)(k:KV):R:=aY v fun r0=>au r0 fun d0 r1=>dP d0 fun x0=>aQ .i64 x0 fun a0=>au r1 fun d1 r2=>dP d1 fun x1=>az x1 fun a1=>aq r2<|bZ hi o fun o=>k (.tup [.p (.int .i64 a0),.p (.bool a1)]) o
theorem acC (hi:List Ob)(v:D)(o:List Ob)(k:KV):Le (afN hi v o k) (k v o):=by
 unfold afN;refine cC fun _ q=>?_;subst q;refine ag fun _ _ q=>?_;subst q;refine bc fun _ q=>?_;subst q;refine bg fun _ q=>?_;subst q;refine ag fun _ _ q=>?_;subst q;refine bc fun _ q=>?_;subst q;refine cj fun _ q=>?_;subst q;refine bj fun q=>?_;subst q;exact bo hi o (Le.refl _)
noncomputable def afO (hi:List Ob)(v:D)(o:List Ob)(k:KV):R:=aY v fun r0=>au r0 fun d0 r1=>dP d0 fun x0=>aQ .i64 x0 fun a0=>au r1 fun d1 r2=>dP d1 fun x1=>az x1 fun a1=>au r2 fun d2 r3=>dP d2 fun x2=>az x2 fun a2=>aq r3<|bZ hi o fun o=>k (.tup [.p (.int .i64 a0),.p (.bool a1),.p (.bool a2)]) o
theorem acD (hi:List Ob)(v:D)(o:List Ob)(k:KV):Le (afO hi v o k) (k v o):=by
 unfold afO;refine cC fun _ q=>?_;subst q;refine ag fun _ _ q=>?_;subst q;refine bc fun _ q=>?_;subst q;refine bg fun _ q=>?_;subst q;refine ag fun _ _ q=>?_;subst q;refine bc fun _ q=>?_;subst q;refine cj fun _ q=>?_;subst q;refine ag fun _ _ q=>?_;subst q;refine bc fun _ q=>?_;subst q;refine cj fun _ q=>?_;subst q;refine bj fun q=>?_;subst q;exact bo hi o (Le.refl _)
noncomputable def afP (hi:List Ob)(v:D)(o:List Ob)(k:KV):R:=dP v fun x0=>aQ .i64 x0 fun a0=>bZ hi o fun o=>k (.p (.int .i64 a0)) o
theorem acE (hi:List Ob)(v:D)(o:List Ob)(k:KV):Le (afP hi v o k) (k v o):=by
 unfold afP;refine bc fun _ q=>?_;subst q;refine bg fun _ q=>?_;subst q;exact bo hi o (Le.refl _)
noncomputable def afQ (hi:List Ob)(v:D)(o:List Ob)(k:KV):R:=aY v fun r0=>au r0 fun d0 r1=>dP d0 fun x0=>gj 5 x0 fun a0=>au r1 fun d1 r2=>dP d1 fun x1=>aQ .i64 x1 fun a1=>aq r2<|bZ hi o fun o=>k (.tup [.p (.slice 5 a0),.p (.int .i64 a1)]) o
theorem acF (hi:List Ob)(v:D)(o:List Ob)(k:KV):Le (afQ hi v o k) (k v o):=by
 unfold afQ;refine cC fun _ q=>?_;subst q;refine ag fun _ _ q=>?_;subst q;refine bc fun _ q=>?_;subst q;refine bX fun _ q=>?_;subst q;refine ag fun _ _ q=>?_;subst q;refine bc fun _ q=>?_;subst q;refine bg fun _ q=>?_;subst q;refine bj fun q=>?_;subst q;exact bo hi o (Le.refl _)
noncomputable def afR (hi:List Ob)(v:D)(o:List Ob)(k:KV):R:=dP v fun x0=>eH x0 fun a0=>bZ hi o fun o=>k (.p (a0.e)) o
theorem acG (hi:List Ob)(v:D)(o:List Ob)(k:KV):Le (afR hi v o k) (k v o):=by
 unfold afR;refine bc fun _ q=>?_;subst q;refine eq fun _ q=>?_;subst q;exact bo hi o (Le.refl _)
noncomputable def afS (hi:List Ob)(v:D)(o:List Ob)(k:KV):R:=dP v fun x0=>gj 5 x0 fun a0=>bZ hi o fun o=>k (.p (.slice 5 a0)) o
theorem acH (hi:List Ob)(v:D)(o:List Ob)(k:KV):Le (afS hi v o k) (k v o):=by
 unfold afS;refine bc fun _ q=>?_;subst q;refine bX fun _ q=>?_;subst q;exact bo hi o (Le.refl _)
noncomputable def afT (hi:List Ob)(v:D)(o:List Ob)(k:KV):R:=aY v fun r0=>au r0 fun d0 r1=>dP d0 fun x0=>jC x0 fun a0=>au r1 fun d1 r2=>dP d1 fun x1=>aQ .i64 x1 fun a1=>aq r2<|bZ hi o fun o=>k (.tup [.p (a0.e),.p (.int .i64 a1)]) o
theorem acI (hi:List Ob)(v:D)(o:List Ob)(k:KV):Le (afT hi v o k) (k v o):=by
 unfold afT;refine cC fun _ q=>?_;subst q;refine ag fun _ _ q=>?_;subst q;refine bc fun _ q=>?_;subst q;refine oq fun _ q=>?_;subst q;refine ag fun _ _ q=>?_;subst q;refine bc fun _ q=>?_;subst q;refine bg fun _ q=>?_;subst q;refine bj fun q=>?_;subst q;exact bo hi o (Le.refl _)
noncomputable def afU (hi:List Ob)(v:D)(o:List Ob)(k:KV):R:=dP v fun x0=>jC x0 fun a0=>bZ hi o fun o=>k (.p (a0.e)) o
theorem acJ (hi:List Ob)(v:D)(o:List Ob)(k:KV):Le (afU hi v o k) (k v o):=by
 unfold afU;refine bc fun _ q=>?_;subst q;refine oq fun _ q=>?_;subst q;exact bo hi o (Le.refl _)
noncomputable def afV (hi:List Ob)(v:D)(o:List Ob)(k:KV):R:=dP v fun x0=>gZ x0 fun a0=>bZ hi o fun o=>k (.p (.str a0)) o
theorem acK (hi:List Ob)(v:D)(o:List Ob)(k:KV):Le (afV hi v o k) (k v o):=by
 unfold afV;refine bc fun _ q=>?_;subst q;refine dr fun _ q=>?_;subst q;exact bo hi o (Le.refl _)
noncomputable def afW (hi:List Ob)(v:D)(o:List Ob)(k:KV):R:=aY v fun r0=>au r0 fun d0 r1=>dP d0 fun x0=>kw x0 fun a0=>au r1 fun d1 r2=>dP d1 fun x1=>aQ .i64 x1 fun a1=>au r2 fun d2 r3=>dP d2 fun x2=>aQ .i64 x2 fun a2=>aq r3<|bZ hi o fun o=>k (.tup [.p (a0.e),.p (.int .i64 a1),.p (.int .i64 a2)]) o
theorem acL (hi:List Ob)(v:D)(o:List Ob)(k:KV):Le (afW hi v o k) (k v o):=by
 unfold afW;refine cC fun _ q=>?_;subst q;refine ag fun _ _ q=>?_;subst q;refine bc fun _ q=>?_;subst q;refine pK fun _ q=>?_;subst q;refine ag fun _ _ q=>?_;subst q;refine bc fun _ q=>?_;subst q;refine bg fun _ q=>?_;subst q;refine ag fun _ _ q=>?_;subst q;refine bc fun _ q=>?_;subst q;refine bg fun _ q=>?_;subst q;refine bj fun q=>?_;subst q;exact bo hi o (Le.refl _)
noncomputable def afY (hi:List Ob)(v:D)(o:List Ob)(k:KV):R:=dP v fun x0=>gj 7 x0 fun a0=>bZ hi o fun o=>k (.p (.slice 7 a0)) o
theorem acM (hi:List Ob)(v:D)(o:List Ob)(k:KV):Le (afY hi v o k) (k v o):=by
 unfold afY;refine bc fun _ q=>?_;subst q;refine bX fun _ q=>?_;subst q;exact bo hi o (Le.refl _)
noncomputable def afZ (hi:List Ob)(v:D)(o:List Ob)(k:KV):R:=dP v fun x0=>mc x0 fun a0=>bZ hi o fun o=>k (.p (a0.e)) o
theorem acN (hi:List Ob)(v:D)(o:List Ob)(k:KV):Le (afZ hi v o k) (k v o):=by
 unfold afZ;refine bc fun _ q=>?_;subst q;refine ru fun _ q=>?_;subst q;exact bo hi o (Le.refl _)
noncomputable def af0 (hi:List Ob)(v:D)(o:List Ob)(k:KV):R:=dP v fun x0=>az x0 fun a0=>bd hi o<|k (.p (.bool a0)) hi
theorem acO (hi:List Ob)(v:D)(o:List Ob)(k:KV):Le (af0 hi v o k) (k v o):=by
 unfold af0;refine bc fun _ q=>?_;subst q;refine cj fun _ q=>?_;subst q;exact gY fun q=>by subst q;exact Le.refl _
noncomputable def af1 (hi:List Ob)(v:D)(o:List Ob)(k:KV):R:=aY v fun r0=>au r0 fun d0 r1=>dP d0 fun x0=>bk x0 fun a0=>au r1 fun d1 r2=>dP d1 fun x1=>az x1 fun a1=>aq r2<|bd hi o<|k (.tup [.p (a0.e),.p (.bool a1)]) hi
theorem acP (hi:List Ob)(v:D)(o:List Ob)(k:KV):Le (af1 hi v o k) (k v o):=by
 unfold af1;refine cC fun _ q=>?_;subst q;refine ag fun _ _ q=>?_;subst q;refine bc fun _ q=>?_;subst q;refine dS fun _ q=>?_;subst q;refine ag fun _ _ q=>?_;subst q;refine bc fun _ q=>?_;subst q;refine cj fun _ q=>?_;subst q;refine bj fun q=>?_;subst q;exact gY fun q=>by subst q;exact Le.refl _
noncomputable def af2 (hi:List Ob)(v:D)(o:List Ob)(k:KV):R:=aY v fun r0=>au r0 fun d0 r1=>dP d0 fun x0=>aQ .i64 x0 fun a0=>au r1 fun d1 r2=>dP d1 fun x1=>az x1 fun a1=>aq r2<|bd hi o<|k (.tup [.p (.int .i64 a0),.p (.bool a1)]) hi
theorem acQ (hi:List Ob)(v:D)(o:List Ob)(k:KV):Le (af2 hi v o k) (k v o):=by
 unfold af2;refine cC fun _ q=>?_;subst q;refine ag fun _ _ q=>?_;subst q;refine bc fun _ q=>?_;subst q;refine bg fun _ q=>?_;subst q;refine ag fun _ _ q=>?_;subst q;refine bc fun _ q=>?_;subst q;refine cj fun _ q=>?_;subst q;refine bj fun q=>?_;subst q;exact gY fun q=>by subst q;exact Le.refl _
noncomputable def af3 (hi:List Ob)(v:D)(o:List Ob)(k:KV):R:=aY v fun r0=>au r0 fun d0 r1=>dP d0 fun x0=>cf x0 fun a0=>au r1 fun d1 r2=>dP d1 fun x1=>aQ .i64 x1 fun a1=>au r2 fun d2 r3=>dP d2 fun x2=>gj 1 x2 fun a2=>aq r3<|bZ hi o fun o=>k (.tup [.p (a0.e),.p (.int .i64 a1),.p (.slice 1 a2)]) o
theorem acR (hi:List Ob)(v:D)(o:List Ob)(k:KV):Le (af3 hi v o k) (k v o):=by
 unfold af3;refine cC fun _ q=>?_;subst q;refine ag fun _ _ q=>?_;subst q;refine bc fun _ q=>?_;subst q;refine mY fun _ q=>?_;subst q;refine ag fun _ _ q=>?_;subst q;refine bc fun _ q=>?_;subst q;refine bg fun _ q=>?_;subst q;refine ag fun _ _ q=>?_;subst q;refine bc fun _ q=>?_;subst q;refine bX fun _ q=>?_;subst q;refine bj fun q=>?_;subst q;exact bo hi o (Le.refl _)
noncomputable def af4 (hi:List Ob)(v:D)(o:List Ob)(k:KV):R:=aY v fun r0=>au r0 fun d0 r1=>dP d0 fun x0=>aQ .i64 x0 fun a0=>au r1 fun d1 r2=>dP d1 fun x1=>az x1 fun a1=>au r2 fun d2 r3=>dP d2 fun x2=>az x2 fun a2=>aq r3<|bd hi o<|k (.tup [.p (.int .i64 a0),.p (.bool a1),.p (.bool a2)]) hi
theorem acS (hi:List Ob)(v:D)(o:List Ob)(k:KV):Le (af4 hi v o k) (k v o):=by
 unfold af4;refine cC fun _ q=>?_;subst q;refine ag fun _ _ q=>?_;subst q;refine bc fun _ q=>?_;subst q;refine bg fun _ q=>?_;subst q;refine ag fun _ _ q=>?_;subst q;refine bc fun _ q=>?_;subst q;refine cj fun _ q=>?_;subst q;refine ag fun _ _ q=>?_;subst q;refine bc fun _ q=>?_;subst q;refine cj fun _ q=>?_;subst q;refine bj fun q=>?_;subst q;exact gY fun q=>by subst q;exact Le.refl _
noncomputable def af5 (hi:List Ob)(v:D)(o:List Ob)(k:KV):R:=dP v fun x0=>bP x0 fun a0=>bZ hi o fun o=>k (.p (a0.e)) o
theorem acT (hi:List Ob)(v:D)(o:List Ob)(k:KV):Le (af5 hi v o k) (k v o):=by
 unfold af5;refine bc fun _ q=>?_;subst q;refine lD fun _ q=>?_;subst q;exact bo hi o (Le.refl _)
noncomputable def af6 (hi:List Ob)(v:D)(o:List Ob)(k:KV):R:=dP v fun x0=>gj 1 x0 fun a0=>bZ hi o fun o=>k (.p (.slice 1 a0)) o
theorem acU (hi:List Ob)(v:D)(o:List Ob)(k:KV):Le (af6 hi v o k) (k v o):=by
 unfold af6;refine bc fun _ q=>?_;subst q;refine bX fun _ q=>?_;subst q;exact bo hi o (Le.refl _)
noncomputable def af7 (hi:List Ob)(v:D)(o:List Ob)(k:KV):R:=dP v fun x0=>gj 2 x0 fun a0=>bd hi o<|k (.p (.slice 2 a0)) hi
theorem acV (hi:List Ob)(v:D)(o:List Ob)(k:KV):Le (af7 hi v o k) (k v o):=by
 unfold af7;refine bc fun _ q=>?_;subst q;refine bX fun _ q=>?_;subst q;exact gY fun q=>by subst q;exact Le.refl _
noncomputable def af8 (hi:List Ob)(v:D)(o:List Ob)(k:KV):R:=aY v fun r0=>au r0 fun d0 r1=>dP d0 fun x0=>eH x0 fun a0=>au r1 fun d1 r2=>dP d1 fun x1=>az x1 fun a1=>aq r2<|bZ hi o fun o=>k (.tup [.p (a0.e),.p (.bool a1)]) o
theorem acW (hi:List Ob)(v:D)(o:List Ob)(k:KV):Le (af8 hi v o k) (k v o):=by
 unfold af8;refine cC fun _ q=>?_;subst q;refine ag fun _ _ q=>?_;subst q;refine bc fun _ q=>?_;subst q;refine eq fun _ q=>?_;subst q;refine ag fun _ _ q=>?_;subst q;refine bc fun _ q=>?_;subst q;refine cj fun _ q=>?_;subst q;refine bj fun q=>?_;subst q;exact bo hi o (Le.refl _)
noncomputable def af9 (hi:List Ob)(v:D)(o:List Ob)(k:KV):R:=dP v fun x0=>gj 6 x0 fun a0=>bZ hi o fun o=>k (.p (.slice 6 a0)) o
theorem acX (hi:List Ob)(v:D)(o:List Ob)(k:KV):Le (af9 hi v o k) (k v o):=by
 unfold af9;refine bc fun _ q=>?_;subst q;refine bX fun _ q=>?_;subst q;exact bo hi o (Le.refl _)
noncomputable def aga (hi:List Ob)(v:D)(o:List Ob)(k:KV):R:=aY v fun r0=>au r0 fun d0 r1=>dP d0 fun x0=>gj 4 x0 fun a0=>au r1 fun d1 r2=>dP d1 fun x1=>aQ .i64 x1 fun a1=>au r2 fun d2 r3=>dP d2 fun x2=>aQ .i64 x2 fun a2=>aq r3<|bZ hi o fun o=>k (.tup [.p (.slice 4 a0),.p (.int .i64 a1),.p (.int .i64 a2)]) o
theorem acY (hi:List Ob)(v:D)(o:List Ob)(k:KV):Le (aga hi v o k) (k v o):=by
 unfold aga;refine cC fun _ q=>?_;subst q;refine ag fun _ _ q=>?_;subst q;refine bc fun _ q=>?_;subst q;refine bX fun _ q=>?_;subst q;refine ag fun _ _ q=>?_;subst q;refine bc fun _ q=>?_;subst q;refine bg fun _ q=>?_;subst q;refine ag fun _ _ q=>?_;subst q;refine bc fun _ q=>?_;subst q;refine bg fun _ q=>?_;subst q;refine bj fun q=>?_;subst q;exact bo hi o (Le.refl _)
noncomputable def agb (hi:List Ob)(v:D)(o:List Ob)(k:KV):R:=dP v fun x0=>aQ .i64 x0 fun a0=>bd hi o<|k (.p (.int .i64 a0)) hi
theorem acZ (hi:List Ob)(v:D)(o:List Ob)(k:KV):Le (agb hi v o k) (k v o):=by
 unfold agb;refine bc fun _ q=>?_;subst q;refine bg fun _ q=>?_;subst q;exact gY fun q=>by subst q;exact Le.refl _
noncomputable def agc (hi:List Ob)(v:D)(o:List Ob)(k:KV):R:=aY v fun r0=>au r0 fun d0 r1=>dP d0 fun x0=>gl x0 fun a0=>au r1 fun d1 r2=>dP d1 fun x1=>aQ .i64 x1 fun a1=>au r2 fun d2 r3=>dP d2 fun x2=>aQ .i64 x2 fun a2=>aq r3<|bZ hi o fun o=>k (.tup [.p (a0.e),.p (.int .i64 a1),.p (.int .i64 a2)]) o
theorem ac0 (hi:List Ob)(v:D)(o:List Ob)(k:KV):Le (agc hi v o k) (k v o):=by
 unfold agc;refine cC fun _ q=>?_;subst q;refine ag fun _ _ q=>?_;subst q;refine bc fun _ q=>?_;subst q;refine rx fun _ q=>?_;subst q;refine ag fun _ _ q=>?_;subst q;refine bc fun _ q=>?_;subst q;refine bg fun _ q=>?_;subst q;refine ag fun _ _ q=>?_;subst q;refine bc fun _ q=>?_;subst q;refine bg fun _ q=>?_;subst q;refine bj fun q=>?_;subst q;exact bo hi o (Le.refl _)
noncomputable def agd (hi:List Ob)(v:D)(o:List Ob)(k:KV):R:=dP v fun x0=>aQ .i64 x0 fun a0=>xh o fun c=>k (.p (.int .i64 a0)) c.hp
theorem ac1 (hi:List Ob)(v:D)(o:List Ob)(k:KV):Le (agd hi v o k) (k v o):=by
 unfold agd;refine bc fun _ q=>?_;subst q;refine bg fun _ q=>?_;subst q;exact Ew fun c q=>by subst q;exact Le.refl _
noncomputable def YQ (hi:List Ob)(v:D)(o:List Ob)(k:KV):R:=aY v fun r0=>au r0 fun d0 r1=>dP d0 fun x0=>lr x0 fun a0=>au r1 fun d1 r2=>dP d1 fun x1=>aQ .i64 x1 fun a1=>au r2 fun d2 r3=>dP d2 fun x2=>aQ .i64 x2 fun a2=>aq r3<|bZ hi o fun o=>k (.tup [.p (a0.e),.p (.int .i64 a1),.p (.int .i64 a2)]) o
theorem YR (hi:List Ob)(v:D)(o:List Ob)(k:KV):Le (YQ hi v o k) (k v o):=by
 unfold YQ;refine cC fun _ q=>?_;subst q;refine ag fun _ _ q=>?_;subst q;refine bc fun _ q=>?_;subst q;refine mZ fun _ q=>?_;subst q;refine ag fun _ _ q=>?_;subst q;refine bc fun _ q=>?_;subst q;refine bg fun _ q=>?_;subst q;refine ag fun _ _ q=>?_;subst q;refine bc fun _ q=>?_;subst q;refine bg fun _ q=>?_;subst q;refine bj fun q=>?_;subst q;exact bo hi o (Le.refl _)
noncomputable def YS (hi:List Ob)(v:D)(o:List Ob)(k:KV):R:=dP v fun x0=>aM x0 fun a0=>bZ hi o fun o=>k (.p (a0.e)) o
theorem YT (hi:List Ob)(v:D)(o:List Ob)(k:KV):Le (YS hi v o k) (k v o):=by
 unfold YS;refine bc fun _ q=>?_;subst q;refine eS fun _ q=>?_;subst q;exact bo hi o (Le.refl _)
noncomputable def YU (hi:List Ob)(v:D)(o:List Ob)(k:KV):R:=aY v fun r0=>aq r0<|aR o fun c=>k (.tup []) c.hp
theorem YV (hi:List Ob)(v:D)(o:List Ob)(k:KV):Le (YU hi v o k) (k v o):=by
 unfold YU;refine cC fun _ q=>?_;subst q;refine bj fun q=>?_;subst q;exact xi fun c q=>by subst q;exact Le.refl _
noncomputable def YW (hi:List Ob)(v:D)(o:List Ob)(k:KV):R:=dP v fun x0=>aQ .i64 x0 fun a0=>aR o fun c=>k (.p (.int .i64 a0)) c.hp
theorem YX (hi:List Ob)(v:D)(o:List Ob)(k:KV):Le (YW hi v o k) (k v o):=by
 unfold YW;refine bc fun _ q=>?_;subst q;refine bg fun _ q=>?_;subst q;exact xi fun c q=>by subst q;exact Le.refl _
noncomputable def YY (hi:List Ob)(v:D)(o:List Ob)(k:KV):R:=dP v fun x0=>gj 1 x0 fun a0=>xh o fun c=>k (.p (.slice 1 a0)) c.hp
theorem YZ (hi:List Ob)(v:D)(o:List Ob)(k:KV):Le (YY hi v o k) (k v o):=by
 unfold YY;refine bc fun _ q=>?_;subst q;refine bX fun _ q=>?_;subst q;exact Ew fun c q=>by subst q;exact Le.refl _
noncomputable def Y0 (hi:List Ob)(v:D)(o:List Ob)(k:KV):R:=dP v fun x0=>az x0 fun a0=>xh o fun c=>k (.p (.bool a0)) c.hp
theorem Y1 (hi:List Ob)(v:D)(o:List Ob)(k:KV):Le (Y0 hi v o k) (k v o):=by
 unfold Y0;refine bc fun _ q=>?_;subst q;refine cj fun _ q=>?_;subst q;exact Ew fun c q=>by subst q;exact Le.refl _
noncomputable def Y2 (hi:List Ob)(v:D)(o:List Ob)(k:KV):R:=aY v fun r0=>au r0 fun d0 r1=>dP d0 fun x0=>gZ x0 fun a0=>au r1 fun d1 r2=>dP d1 fun x1=>aQ .i64 x1 fun a1=>au r2 fun d2 r3=>dP d2 fun x2=>az x2 fun a2=>aq r3<|bZ hi o fun o=>k (.tup [.p (.str a0),.p (.int .i64 a1),.p (.bool a2)]) o
theorem Y3 (hi:List Ob)(v:D)(o:List Ob)(k:KV):Le (Y2 hi v o k) (k v o):=by
 unfold Y2;refine cC fun _ q=>?_;subst q;refine ag fun _ _ q=>?_;subst q;refine bc fun _ q=>?_;subst q;refine dr fun _ q=>?_;subst q;refine ag fun _ _ q=>?_;subst q;refine bc fun _ q=>?_;subst q;refine bg fun _ q=>?_;subst q;refine ag fun _ _ q=>?_;subst q;refine bc fun _ q=>?_;subst q;refine cj fun _ q=>?_;subst q;refine bj fun q=>?_;subst q;exact bo hi o (Le.refl _)
noncomputable def Y4 (hi:List Ob)(v:D)(o:List Ob)(k:KV):R:=dP v fun x0=>bk x0 fun a0=>bZ hi o fun o=>k (.p (a0.e)) o
theorem Y5 (hi:List Ob)(v:D)(o:List Ob)(k:KV):Le (Y4 hi v o k) (k v o):=by
 unfold Y4;refine bc fun _ q=>?_;subst q;refine dS fun _ q=>?_;subst q;exact bo hi o (Le.refl _)
noncomputable def Y6 (hi:List Ob)(v:D)(o:List Ob)(k:KV):R:=dP v fun x0=>lr x0 fun a0=>bZ hi o fun o=>k (.p (a0.e)) o
theorem Y7 (hi:List Ob)(v:D)(o:List Ob)(k:KV):Le (Y6 hi v o k) (k v o):=by
 unfold Y6;refine bc fun _ q=>?_;subst q;refine mZ fun _ q=>?_;subst q;exact bo hi o (Le.refl _)
noncomputable def Y8 (hi:List Ob)(v:D)(o:List Ob)(k:KV):R:=dP v fun x0=>bR x0 fun a0=>bZ hi o fun o=>k (.p (a0.e)) o
theorem Y9 (hi:List Ob)(v:D)(o:List Ob)(k:KV):Le (Y8 hi v o k) (k v o):=by
 unfold Y8;refine bc fun _ q=>?_;subst q;refine f0 fun _ q=>?_;subst q;exact bo hi o (Le.refl _)
noncomputable def Za (hi:List Ob)(v:D)(o:List Ob)(k:KV):R:=aY v fun r0=>au r0 fun d0 r1=>dP d0 fun x0=>lr x0 fun a0=>au r1 fun d1 r2=>dP d1 fun x1=>az x1 fun a1=>aq r2<|bZ hi o fun o=>k (.tup [.p (a0.e),.p (.bool a1)]) o
theorem Zb (hi:List Ob)(v:D)(o:List Ob)(k:KV):Le (Za hi v o k) (k v o):=by
 unfold Za;refine cC fun _ q=>?_;subst q;refine ag fun _ _ q=>?_;subst q;refine bc fun _ q=>?_;subst q;refine mZ fun _ q=>?_;subst q;refine ag fun _ _ q=>?_;subst q;refine bc fun _ q=>?_;subst q;refine cj fun _ q=>?_;subst q;refine bj fun q=>?_;subst q;exact bo hi o (Le.refl _)
noncomputable def Zc (hi:List Ob)(v:D)(o:List Ob)(k:KV):R:=aY v fun r0=>au r0 fun d0 r1=>dP d0 fun x0=>aQ .u8 x0 fun a0=>au r1 fun d1 r2=>dP d1 fun x1=>aQ .i64 x1 fun a1=>aq r2<|bZ hi o fun o=>k (.tup [.p (.int .u8 a0),.p (.int .i64 a1)]) o
theorem Zd (hi:List Ob)(v:D)(o:List Ob)(k:KV):Le (Zc hi v o k) (k v o):=by
 unfold Zc;refine cC fun _ q=>?_;subst q;refine ag fun _ _ q=>?_;subst q;refine bc fun _ q=>?_;subst q;refine bg fun _ q=>?_;subst q;refine ag fun _ _ q=>?_;subst q;refine bc fun _ q=>?_;subst q;refine bg fun _ q=>?_;subst q;refine bj fun q=>?_;subst q;exact bo hi o (Le.refl _)
noncomputable def Ze (hi:List Ob)(v:D)(o:List Ob)(k:KV):R:=dP v fun x0=>aT x0 fun a0=>aR o fun c=>k (.p (a0.e)) c.hp
theorem Zf (hi:List Ob)(v:D)(o:List Ob)(k:KV):Le (Ze hi v o k) (k v o):=by
 unfold Ze;refine bc fun _ q=>?_;subst q;refine gx fun _ q=>?_;subst q;exact xi fun c q=>by subst q;exact Le.refl _
noncomputable def Zg (hi:List Ob)(v:D)(o:List Ob)(k:KV):R:=aY v fun r0=>au r0 fun d0 r1=>dP d0 fun x0=>gj 1 x0 fun a0=>au r1 fun d1 r2=>dP d1 fun x1=>gZ x1 fun a1=>aq r2<|bZ hi o fun o=>k (.tup [.p (.slice 1 a0),.p (.str a1)]) o
theorem Zh (hi:List Ob)(v:D)(o:List Ob)(k:KV):Le (Zg hi v o k) (k v o):=by
 unfold Zg;refine cC fun _ q=>?_;subst q;refine ag fun _ _ q=>?_;subst q;refine bc fun _ q=>?_;subst q;refine bX fun _ q=>?_;subst q;refine ag fun _ _ q=>?_;subst q;refine bc fun _ q=>?_;subst q;refine dr fun _ q=>?_;subst q;refine bj fun q=>?_;subst q;exact bo hi o (Le.refl _)
noncomputable def Zi (hi:List Ob)(v:D)(o:List Ob)(k:KV):R:=aY v fun r0=>au r0 fun d0 r1=>dP d0 fun x0=>aT x0 fun a0=>au r1 fun d1 r2=>dP d1 fun x1=>az x1 fun a1=>aq r2<|bd hi o<|k (.tup [.p (a0.e),.p (.bool a1)]) hi
theorem Zj (hi:List Ob)(v:D)(o:List Ob)(k:KV):Le (Zi hi v o k) (k v o):=by
 unfold Zi;refine cC fun _ q=>?_;subst q;refine ag fun _ _ q=>?_;subst q;refine bc fun _ q=>?_;subst q;refine gx fun _ q=>?_;subst q;refine ag fun _ _ q=>?_;subst q;refine bc fun _ q=>?_;subst q;refine cj fun _ q=>?_;subst q;refine bj fun q=>?_;subst q;exact gY fun q=>by subst q;exact Le.refl _
noncomputable def Zk (hi:List Ob)(v:D)(o:List Ob)(k:KV):R:=dP v fun x0=>aQ .u8 x0 fun a0=>bZ hi o fun o=>k (.p (.int .u8 a0)) o
theorem Zl (hi:List Ob)(v:D)(o:List Ob)(k:KV):Le (Zk hi v o k) (k v o):=by
 unfold Zk;refine bc fun _ q=>?_;subst q;refine bg fun _ q=>?_;subst q;exact bo hi o (Le.refl _)
noncomputable def caT (f:Nat)(hi:List Ob)(v:D)(o:List Ob)(k:KV):R:=bif Nat.beq f 228 then agj hi v o k else bif Nat.beq f 269 then agi hi v o k else bif Nat.beq f 53 then agf hi v o k else bif Nat.beq f 92 then agh hi v o k else bif bF f [0,1,2,112,119,151,170,192,198,214,216,240,242,256,259,260,263,275,309,317,319,321,323,325,327,330,335,336,337,338,339,340,341,342]then ca0 hi v o k else bif bF f [3,4,5,6,7,8,12,14,15,16,17,20,26,32,36,40,43,45,47,50,52,56,64,65,66,67,71,80,84,93,94,97,98,101,108,111,114,117,118,121,124,125,126,133,135,136,142,143,144,145,148,149,153,156,157,158,160,162,164,165,174,175,176,177,178,193,199,200,201,203,204,207,209,210,215,221,225,226,227,229,245,247,248,249,254,255,258,264,273,292,293,300,306,308]then ca3 hi v o k else bif bF f [9,27,28,96]then ca9 hi v o k else bif bF f [10,11]then afJ hi v o k else bif bF f [13]then afK hi v o k else bif bF f [18,78]then afL hi v o k else bif bF f [19,23]then afM hi v o k else bif bF f [21,22,99,132,137,146]then afN hi v o k else bif bF f [24,25]then afO hi v o k else bif bF f [29,49,58,59,68,69,72,100,106,107,115,130,131,138,152,159,161,163,168,179,186,187,188,190,195,196,197,202,212,217,218,237,239,243,244,246,250,253,257,261,262,265,270,271,272,274,276,277,278,279,286,287,288,289,290,294,295,297,298,304,305,307,310,311,312,313,314,315,328]then afP hi v o k else bif bF f [30]then afQ hi v o k else bif bF f [31,42,79,102,105,154,194,213]then afR hi v o k else bif bF f [33]then afS hi v o k else bif bF f [34]then afT hi v o k else bif bF f [35]then afU hi v o k else bif bF f [37,39,103,104,139,140,150,171,185,189,238,301,316,318,320,322,324,326,329,331,332,333,334]then afV hi v o k else bif bF f [38,51,75,83]then afW hi v o k else bif bF f [41]then afY hi v o k else bif bF f [44]then afZ hi v o k else bif bF f [46,48,85,86,87,89,91,122,123,205,219,220,222,223,224,231,232,267]then af0 hi v o k else bif bF f [54]then af1 hi v o k else bif bF f [55]then af2 hi v o k else bif bF f [57]then af3 hi v o k else bif bF f [60]then af4 hi v o k else bif bF f [61]then af5 hi v o k else bif bF f [62,76,77,280,291,296,303]then af6 hi v o k else bif bF f [63]then af7 hi v o k else bif bF f [70]then af8 hi v o k else bif bF f [73,109,141]then af9 hi v o k else bif bF f [74,82]then aga hi v o k else bif bF f [81,90]then agb hi v o k else bif bF f [88]then agc hi v o k else bif bF f [95]then agd hi v o k else bif bF f [110,116,166,167]then YQ hi v o k else bif bF f [113,120]then YS hi v o k else bif bF f [127,180,183,184,230,236]then YU hi v o k else bif bF f [128,181,182,234,235]then YW hi v o k else bif bF f [129]then YY hi v o k else bif bF f [134]then Y0 hi v o k else bif bF f [147]then Y2 hi v o k else bif bF f [155,173]then Y4 hi v o k else bif bF f [169,211]then Y6 hi v o k else bif bF f [172]then Y8 hi v o k else bif bF f [191]then Za hi v o k else bif bF f [208]then Zc hi v o k else bif bF f [233]then Ze hi v o k else bif bF f [241]then Zg hi v o k else bif bF f [268]then Zi hi v o k else bif bF f [299]then Zk hi v o k else k v o
noncomputable def mvT (z:D)(x:Da)(k:Da→R):R:=match z with| .p (.int i _)=>aQ i x fun n=>k (.int i n)| .p (.bool _)=>az x fun b=>k (.bool b)| .p (.agg cs)=>bif Nat.beq cs.length 3 then aT x fun t=>k t.e else k x|_=>k x
noncomputable def elI (z:Nat)(x:Da)(k:Da→R):R:=bif Nat.beq z 8 then aI x fun t=>k t.e else bif Nat.beq z 3 then aM x fun t=>k t.e else bif Nat.beq z 4 then bk x fun t=>k t.e else bif Nat.beq z 7 then bR x fun t=>k t.e else bif Nat.beq z 2 then bH x fun t=>k t.e else bif Nat.beq z 5 then eH x fun t=>k t.e else bif Nat.beq z 1 then aQ .i64 x fun i=>k (.int .i64 i)else bif Nat.beq z 0 then aQ .i64 x fun i=>k (.int .i64 i)else k x
noncomputable def elS (z:Nat)(x:Da)(k:Da→R):R:=bif Nat.beq z 8 then aI x fun t=>k t.e else bif Nat.beq z 3 then aM x fun t=>k t.e else bif Nat.beq z 4 then bk x fun t=>k t.e else bif Nat.beq z 7 then bR x fun t=>k t.e else bif Nat.beq z 2 then bH x fun t=>k t.e else bif Nat.beq z 5 then eH x fun t=>k t.e else bif Nat.beq z 1 then gZ x fun s=>k (.str s)else bif Nat.beq z 0 then gZ x fun s=>k (.str s)else k x
noncomputable def elG (z:Nat)(x:Da)(k:Da→R):R:=bif Nat.beq z 8 then aI x fun t=>k t.e else bif Nat.beq z 3 then aM x fun t=>k t.e else bif Nat.beq z 4 then bk x fun t=>k t.e else bif Nat.beq z 7 then bR x fun t=>k t.e else bif Nat.beq z 2 then dY x fun t=>k t.e else bif Nat.beq z 5 then eH x fun t=>k t.e else bif Nat.beq z 1 then aQ .i64 x fun i=>k (.int .i64 i)else bif Nat.beq z 0 then aQ .i64 x fun i=>k (.int .i64 i)else k x
noncomputable def elL (z:Nat)(x:Da)(k:Da→R):R:=bif Nat.beq z 8 then aI x fun t=>k t.e else bif Nat.beq z 3 then gl x fun t=>k t.e else bif Nat.beq z 4 then bk x fun t=>k t.e else bif Nat.beq z 7 then bR x fun t=>k t.e else bif Nat.beq z 2 then bH x fun t=>k t.e else bif Nat.beq z 5 then eH x fun t=>k t.e else bif Nat.beq z 1 then gj 3 x fun l=>k (.slice 3 l)else bif Nat.beq z 0 then gj 3 x fun l=>k (.slice 3 l)else k x
noncomputable def dcI:rM:=⟨elI,caT,mvT,false,true⟩
noncomputable def aiC:rM:=⟨elI,caT,mvT,false,false⟩
noncomputable def aiB:rM:=⟨elI,caT,mvT,true,true⟩
noncomputable def dcS:rM:=⟨elS,caT,mvT,false,true⟩
noncomputable def aiA:rM:=⟨elG,caT,mvT,true,true⟩
noncomputable def dcL:rM:=⟨elL,caT,mvT,false,true⟩
theorem Rz (z:Nat)(x:Da)(k:Da→R):Le (elI z x k) (k x):=by
 unfold elI;cases Nat.beq z 8<;>simp only[cond_true,cond_false];rotate_left
 ·exact ku fun _ q=>by subst q;exact Le.refl _
 cases Nat.beq z 3<;>simp only[cond_true,cond_false];rotate_left
 ·exact eS fun _ q=>by subst q;exact Le.refl _
 cases Nat.beq z 4<;>simp only[cond_true,cond_false];rotate_left
 ·exact dS fun _ q=>by subst q;exact Le.refl _
 cases Nat.beq z 7<;>simp only[cond_true,cond_false];rotate_left
 ·exact f0 fun _ q=>by subst q;exact Le.refl _
 cases Nat.beq z 2<;>simp only[cond_true,cond_false];rotate_left
 ·exact mX fun _ q=>by subst q;exact Le.refl _
 cases Nat.beq z 5<;>simp only[cond_true,cond_false];rotate_left
 ·exact eq fun _ q=>by subst q;exact Le.refl _
 cases Nat.beq z 1<;>simp only[cond_true,cond_false];cases Nat.beq z 0<;>simp only[cond_true,cond_false]
 ·exact Le.refl _
 all_goals exact bg fun _ q=>by subst q;exact Le.refl _
theorem agA (z:Nat)(x:Da)(k:Da→R):Le (elS z x k) (k x):=by
 unfold elS;cases Nat.beq z 8<;>simp only[cond_true,cond_false];rotate_left
 ·exact ku fun _ q=>by subst q;exact Le.refl _
 cases Nat.beq z 3<;>simp only[cond_true,cond_false];rotate_left
 ·exact eS fun _ q=>by subst q;exact Le.refl _
 cases Nat.beq z 4<;>simp only[cond_true,cond_false];rotate_left
 ·exact dS fun _ q=>by subst q;exact Le.refl _
 cases Nat.beq z 7<;>simp only[cond_true,cond_false];rotate_left
 ·exact f0 fun _ q=>by subst q;exact Le.refl _
 cases Nat.beq z 2<;>simp only[cond_true,cond_false];rotate_left
 ·exact mX fun _ q=>by subst q;exact Le.refl _
 cases Nat.beq z 5<;>simp only[cond_true,cond_false];rotate_left
 ·exact eq fun _ q=>by subst q;exact Le.refl _
 cases Nat.beq z 1<;>simp only[cond_true,cond_false];cases Nat.beq z 0<;>simp only[cond_true,cond_false]
 ·exact Le.refl _
 all_goals exact dr fun _ q=>by subst q;exact Le.refl _
theorem agy (z:Nat)(x:Da)(k:Da→R):Le (elG z x k) (k x):=by
 unfold elG;cases Nat.beq z 8<;>simp only[cond_true,cond_false];rotate_left
 ·exact ku fun _ q=>by subst q;exact Le.refl _
 cases Nat.beq z 3<;>simp only[cond_true,cond_false];rotate_left
 ·exact eS fun _ q=>by subst q;exact Le.refl _
 cases Nat.beq z 4<;>simp only[cond_true,cond_false];rotate_left
 ·exact dS fun _ q=>by subst q;exact Le.refl _
 cases Nat.beq z 7<;>simp only[cond_true,cond_false];rotate_left
 ·exact f0 fun _ q=>by subst q;exact Le.refl _
 cases Nat.beq z 2<;>simp only[cond_true,cond_false];rotate_left
 ·exact sJ fun _ q=>by subst q;exact Le.refl _
 cases Nat.beq z 5<;>simp only[cond_true,cond_false];rotate_left
 ·exact eq fun _ q=>by subst q;exact Le.refl _
 cases Nat.beq z 1<;>simp only[cond_true,cond_false];cases Nat.beq z 0<;>simp only[cond_true,cond_false]
 ·exact Le.refl _
 all_goals exact bg fun _ q=>by subst q;exact Le.refl _
theorem agz (z:Nat)(x:Da)(k:Da→R):Le (elL z x k) (k x):=by
 unfold elL;cases Nat.beq z 8<;>simp only[cond_true,cond_false];rotate_left
 ·exact ku fun _ q=>by subst q;exact Le.refl _
 cases Nat.beq z 3<;>simp only[cond_true,cond_false];rotate_left
 ·exact rx fun _ q=>by subst q;exact Le.refl _
 cases Nat.beq z 4<;>simp only[cond_true,cond_false];rotate_left
 ·exact dS fun _ q=>by subst q;exact Le.refl _
 cases Nat.beq z 7<;>simp only[cond_true,cond_false];rotate_left
 ·exact f0 fun _ q=>by subst q;exact Le.refl _
 cases Nat.beq z 2<;>simp only[cond_true,cond_false];rotate_left
 ·exact mX fun _ q=>by subst q;exact Le.refl _
 cases Nat.beq z 5<;>simp only[cond_true,cond_false];rotate_left
 ·exact eq fun _ q=>by subst q;exact Le.refl _
 cases Nat.beq z 1<;>simp only[cond_true,cond_false];cases Nat.beq z 0<;>simp only[cond_true,cond_false]
 ·exact Le.refl _
 all_goals exact bX fun _ q=>by subst q;exact Le.refl _
theorem zV (f:Nat)(hi:List Ob)(v:D)(o:List Ob)(k:KV):Le (caT f hi v o k) (k v o):=by
 unfold caT;cases Nat.beq f 228<;>simp only[cond_true,cond_false];rotate_left
 ·exact ac5 hi v o k
 cases Nat.beq f 269<;>simp only[cond_true,cond_false];rotate_left
 ·exact ac4 hi v o k
 cases Nat.beq f 53<;>simp only[cond_true,cond_false];rotate_left
 ·exact ac2 hi v o k
 cases Nat.beq f 92<;>simp only[cond_true,cond_false];rotate_left
 ·exact ac3 hi v o k
 cases bF f _<;>simp only[cond_true,cond_false];rotate_left
 ·exact afI hi v o k
 cases bF f _<;>simp only[cond_true,cond_false];rotate_left
 ·exact afX hi v o k
 cases bF f _<;>simp only[cond_true,cond_false];rotate_left
 ·exact age hi v o k
 cases bF f _<;>simp only[cond_true,cond_false];rotate_left
 ·exact acy hi v o k
 cases bF f _<;>simp only[cond_true,cond_false];rotate_left
 ·exact acz hi v o k
 cases bF f _<;>simp only[cond_true,cond_false];rotate_left
 ·exact acA hi v o k
 cases bF f _<;>simp only[cond_true,cond_false];rotate_left
 ·exact acB hi v o k
 cases bF f _<;>simp only[cond_true,cond_false];rotate_left
 ·exact acC hi v o k
 cases bF f _<;>simp only[cond_true,cond_false];rotate_left
 ·exact acD hi v o k
 cases bF f _<;>simp only[cond_true,cond_false];rotate_left
 ·exact acE hi v o k
 cases bF f _<;>simp only[cond_true,cond_false];rotate_left
 ·exact acF hi v o k
 cases bF f _<;>simp only[cond_true,cond_false];rotate_left
 ·exact acG hi v o k
 cases bF f _<;>simp only[cond_true,cond_false];rotate_left
 ·exact acH hi v o k
 cases bF f _<;>simp only[cond_true,cond_false];rotate_left
 ·exact acI hi v o k
 cases bF f _<;>simp only[cond_true,cond_false];rotate_left
 ·exact acJ hi v o k
 cases bF f _<;>simp only[cond_true,cond_false];rotate_left
 ·exact acK hi v o k
 cases bF f _<;>simp only[cond_true,cond_false];rotate_left
 ·exact acL hi v o k
 cases bF f _<;>simp only[cond_true,cond_false];rotate_left
 ·exact acM hi v o k
 cases bF f _<;>simp only[cond_true,cond_false];rotate_left
 ·exact acN hi v o k
 cases bF f _<;>simp only[cond_true,cond_false];rotate_left
 ·exact acO hi v o k
 cases bF f _<;>simp only[cond_true,cond_false];rotate_left
 ·exact acP hi v o k
 cases bF f _<;>simp only[cond_true,cond_false];rotate_left
 ·exact acQ hi v o k
 cases bF f _<;>simp only[cond_true,cond_false];rotate_left
 ·exact acR hi v o k
 cases bF f _<;>simp only[cond_true,cond_false];rotate_left
 ·exact acS hi v o k
 cases bF f _<;>simp only[cond_true,cond_false];rotate_left
 ·exact acT hi v o k
 cases bF f _<;>simp only[cond_true,cond_false];rotate_left
 ·exact acU hi v o k
 cases bF f _<;>simp only[cond_true,cond_false];rotate_left
 ·exact acV hi v o k
 cases bF f _<;>simp only[cond_true,cond_false];rotate_left
 ·exact acW hi v o k
 cases bF f _<;>simp only[cond_true,cond_false];rotate_left
 ·exact acX hi v o k
 cases bF f _<;>simp only[cond_true,cond_false];rotate_left
 ·exact acY hi v o k
 cases bF f _<;>simp only[cond_true,cond_false];rotate_left
 ·exact acZ hi v o k
 cases bF f _<;>simp only[cond_true,cond_false];rotate_left
 ·exact ac0 hi v o k
 cases bF f _<;>simp only[cond_true,cond_false];rotate_left
 ·exact ac1 hi v o k
 cases bF f _<;>simp only[cond_true,cond_false];rotate_left
 ·exact YR hi v o k
 cases bF f _<;>simp only[cond_true,cond_false];rotate_left
 ·exact YT hi v o k
 cases bF f _<;>simp only[cond_true,cond_false];rotate_left
 ·exact YV hi v o k
 cases bF f _<;>simp only[cond_true,cond_false];rotate_left
 ·exact YX hi v o k
 cases bF f _<;>simp only[cond_true,cond_false];rotate_left
 ·exact YZ hi v o k
 cases bF f _<;>simp only[cond_true,cond_false];rotate_left
 ·exact Y1 hi v o k
 cases bF f _<;>simp only[cond_true,cond_false];rotate_left
 ·exact Y3 hi v o k
 cases bF f _<;>simp only[cond_true,cond_false];rotate_left
 ·exact Y5 hi v o k
 cases bF f _<;>simp only[cond_true,cond_false];rotate_left
 ·exact Y7 hi v o k
 cases bF f _<;>simp only[cond_true,cond_false];rotate_left
 ·exact Y9 hi v o k
 cases bF f _<;>simp only[cond_true,cond_false];rotate_left
 ·exact Zb hi v o k
 cases bF f _<;>simp only[cond_true,cond_false];rotate_left
 ·exact Zd hi v o k
 cases bF f _<;>simp only[cond_true,cond_false];rotate_left
 ·exact Zf hi v o k
 cases bF f _<;>simp only[cond_true,cond_false];rotate_left
 ·exact Zh hi v o k
 cases bF f _<;>simp only[cond_true,cond_false];rotate_left
 ·exact Zj hi v o k
 cases bF f _<;>simp only[cond_true,cond_false];rotate_left
 ·exact Zl hi v o k
 exact Le.refl _
theorem AC (z:D)(x:Da)(k:Da→R):Le (mvT z x k) (k x):=by
 unfold mvT;split
 ·exact bg fun _ q=>by subst q;exact Le.refl _
 ·exact cj fun _ q=>by subst q;exact Le.refl _
 ·skip
  cases Nat.beq _ 3<;>simp only[cond_true,cond_false];rotate_left
  ·exact gx fun _ q=>by subst q;exact Le.refl _
  exact Le.refl _
 ·exact Le.refl _
theorem ao:(dcI).Ok:=⟨Rz,zV,AC⟩
theorem Tv:(aiB).Ok:=⟨Rz,zV,AC⟩
theorem kx:(aiC).Ok:=⟨Rz,zV,AC⟩
theorem ec:(dcS).Ok:=⟨agA,zV,AC⟩
theorem JX:(aiA).Ok:=⟨agy,zV,AC⟩
theorem agr:(dcL).Ok:=⟨agz,zV,AC⟩
noncomputable def ew (f:Nat):Fx:=(lF prog0 globs0 jN f).getD ⟨.skip,[],false⟩
theorem cu (lp:ae→cG)(F:ae→R){f n m:Nat}{dc:rM}{args:List D}{hp:List Ob}(hd:dc.Ok)(hx:lay0.tab f=some (.code (ew f)))(hm:fD f args hp.length=m)(hl:∀{cc:ae} {call:aN},bC cc call→∀e∈du (ew f).body 1,br (lp cc) call n m e)(h:∀cc,aem m (lp cc) dc cc n (ew f) args hp=F cc):Le (F (bv lay0.tab n)) (evFn lay0.tab (n+1) f args hp):=
 ahP hd hx hm (hl (Z7 _ _)) (h _)
end Go.Ab
