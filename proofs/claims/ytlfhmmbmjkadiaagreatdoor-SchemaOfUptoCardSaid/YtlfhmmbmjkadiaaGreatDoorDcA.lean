import Derived.Test.YtlfhmmbmjkadiaaGreatDoorAl
import Derived.Test.YtlfhmmbmjkadiaaGreatDoorAwZ
import Derived.KernelRfl
set_option linter.all false
namespace Go.Ab
open Go
set_option maxRecDepth 100000
instance mvG:Mv:=⟨fun f=>cZ f [127,128,180,183,236]⟩
noncomputable def bj (hi o:List Ob)(k:R):R:= @ite _ (o=hi) (Classical.propDecidable _) k none
theorem mC {hi o:List Ob}{k Z:R}(h:o=hi→Le k Z):Le (bj hi o k) Z:=by
 unfold bj;split
 ·rename_i e;exact h e
 ·exact Le.no _
noncomputable def zk (c d:D)(k:R):R:= @ite _ (d=c) (Classical.propDecidable _) k none
theorem U8 {c d:D}{k Z:R}(h:d=c→Le k Z):Le (zk c d k) Z:=by
 unfold zk;split
 ·rename_i e;exact h e
 ·exact Le.no _
theorem YB (c:D)(k:R):zk c c k=k:=by
 unfold zk;exact if_pos rfl
theorem bG (hi:List Ob)(k:R):bj hi hi k=k:=by
 unfold bj;exact if_pos rfl
structure af where
 Types:List Da
def af.e (t:af):Da:= .agg [.slice 3 t.Types]
def af.b (t:af):Ob:= .box [.p (.slice 3 t.Types)]
structure ew where
 Program_Types:List Da
 Migrators:List Da
def ew.e (t:ew):Da:= .agg [.slice 3 t.Program_Types,.slice 2 t.Migrators]
def ew.b (t:ew):Ob:= .box [.p (.slice 3 t.Program_Types),.p (.slice 2 t.Migrators)]
noncomputable def gQ (x:Da)(k:ew→R):R:=rL x fun r0=>aI r0 fun c0 r1=>pE 3 c0 fun v0=>aI r1 fun c1 r2=>pE 2 c1 fun v1=>av r2<|k ⟨v0,v1⟩
theorem zm {x:Da}{k:ew→R}{Z:R}(h:∀t:ew,x=t.e→Le (k t) Z):Le (gQ x k) Z:=by
 unfold gQ;refine dX fun _ q=>?_;subst q;refine ao fun _ _ q=>?_;subst q;refine cp fun _ q=>?_;subst q;refine ao fun _ _ q=>?_;subst q;refine cp fun _ q=>?_;subst q;refine bL fun q=>?_;subst q;exact h ⟨_,_⟩ rfl
structure bC where
 Type_:List Nat
 Fields:List Da
def bC.e (t:bC):Da:= .agg [.str t.Type_,.slice 7 t.Fields]
def bC.b (t:bC):Ob:= .box [.p (.str t.Type_),.p (.slice 7 t.Fields)]
noncomputable def bY (x:Da)(k:bC→R):R:=rL x fun r0=>aI r0 fun c0 r1=>iF c0 fun v0=>aI r1 fun c1 r2=>pE 7 c1 fun v1=>av r2<|k ⟨v0,v1⟩
theorem qL {x:Da}{k:bC→R}{Z:R}(h:∀t:bC,x=t.e→Le (k t) Z):Le (bY x k) Z:=by
 unfold bY;refine dX fun _ q=>?_;subst q;refine ao fun _ _ q=>?_;subst q;refine dY fun _ q=>?_;subst q;refine ao fun _ _ q=>?_;subst q;refine cp fun _ q=>?_;subst q;refine bL fun q=>?_;subst q;exact h ⟨_,_⟩ rfl
structure ae where
 Name:List Nat
 Fields:List Da
 Methods:List Da
def ae.e (t:ae):Da:= .agg [.str t.Name,.slice 7 t.Fields,.slice 4 t.Methods]
def ae.b (t:ae):Ob:= .box [.p (.str t.Name),.p (.slice 7 t.Fields),.p (.slice 4 t.Methods)]
noncomputable def aR (x:Da)(k:ae→R):R:=rL x fun r0=>aI r0 fun c0 r1=>iF c0 fun v0=>aI r1 fun c1 r2=>pE 7 c1 fun v1=>aI r2 fun c2 r3=>pE 4 c2 fun v2=>av r3<|k ⟨v0,v1,v2⟩
theorem dy {x:Da}{k:ae→R}{Z:R}(h:∀t:ae,x=t.e→Le (k t) Z):Le (aR x k) Z:=by
 unfold aR;refine dX fun _ q=>?_;subst q;refine ao fun _ _ q=>?_;subst q;refine dY fun _ q=>?_;subst q;refine ao fun _ _ q=>?_;subst q;refine cp fun _ q=>?_;subst q;refine ao fun _ _ q=>?_;subst q;refine cp fun _ q=>?_;subst q;refine bL fun q=>?_;subst q;exact h ⟨_,_,_⟩ rfl
structure bo where
 Type_:Int
 Method:Int
 Node:Int
def bo.e (t:bo):Da:= .agg [.int .i64 t.Type_,.int .i64 t.Method,.int .i64 t.Node]
def bo.b (t:bo):Ob:= .box [.p (.int .i64 t.Type_),.p (.int .i64 t.Method),.p (.int .i64 t.Node)]
noncomputable def cF (x:Da)(k:bo→R):R:=rL x fun r0=>aI r0 fun c0 r1=>aU .i64 c0 fun v0=>aI r1 fun c1 r2=>aU .i64 c1 fun v1=>aI r2 fun c2 r3=>aU .i64 c2 fun v2=>av r3<|k ⟨v0,v1,v2⟩
theorem mE {x:Da}{k:bo→R}{Z:R}(h:∀t:bo,x=t.e→Le (k t) Z):Le (cF x k) Z:=by
 unfold cF;refine dX fun _ q=>?_;subst q;refine ao fun _ _ q=>?_;subst q;refine bE fun _ q=>?_;subst q;refine ao fun _ _ q=>?_;subst q;refine bE fun _ q=>?_;subst q;refine ao fun _ _ q=>?_;subst q;refine bE fun _ q=>?_;subst q;refine bL fun q=>?_;subst q;exact h ⟨_,_,_⟩ rfl
structure kf where
 Params:List Da
 Result:Int
def kf.e (t:kf):Da:= .agg [.slice 1 t.Params,.int .i64 t.Result]
def kf.b (t:kf):Ob:= .box [.p (.slice 1 t.Params),.p (.int .i64 t.Result)]
structure aG where
 Kind:Int
 N:Int
 S:List Nat
 I:List Da
 L:List Da
def aG.e (t:aG):Da:= .agg [.int .i64 t.Kind,.int .i64 t.N,.str t.S,.slice 1 t.I,.slice 1 t.L]
def aG.b (t:aG):Ob:= .box [.p (.int .i64 t.Kind),.p (.int .i64 t.N),.p (.str t.S),.p (.slice 1 t.I),.p (.slice 1 t.L)]
noncomputable def cG (x:Da)(k:aG→R):R:=rL x fun r0=>aI r0 fun c0 r1=>aU .i64 c0 fun v0=>aI r1 fun c1 r2=>aU .i64 c1 fun v1=>aI r2 fun c2 r3=>iF c2 fun v2=>aI r3 fun c3 r4=>pE 1 c3 fun v3=>aI r4 fun c4 r5=>pE 1 c4 fun v4=>av r5<|k ⟨v0,v1,v2,v3,v4⟩
theorem eh {x:Da}{k:aG→R}{Z:R}(h:∀t:aG,x=t.e→Le (k t) Z):Le (cG x k) Z:=by
 unfold cG;refine dX fun _ q=>?_;subst q;refine ao fun _ _ q=>?_;subst q;refine bE fun _ q=>?_;subst q;refine ao fun _ _ q=>?_;subst q;refine bE fun _ q=>?_;subst q;refine ao fun _ _ q=>?_;subst q;refine dY fun _ q=>?_;subst q;refine ao fun _ _ q=>?_;subst q;refine cp fun _ q=>?_;subst q;refine ao fun _ _ q=>?_;subst q;refine cp fun _ q=>?_;subst q;refine bL fun q=>?_;subst q;exact h ⟨_,_,_,_,_⟩ rfl
structure aF where
 Op:Int
 Name:List Nat
 Value_Kind:Int
 Value_N:Int
 Value_S:List Nat
 Value_I:List Da
 Value_L:List Da
 Kids:List Da
def aF.e (t:aF):Da:= .agg [.int .i64 t.Op,.str t.Name,.int .i64 t.Value_Kind,.int .i64 t.Value_N,.str t.Value_S,.slice 1 t.Value_I,.slice 1 t.Value_L,.slice 1 t.Kids]
def aF.b (t:aF):Ob:= .box [.p (.int .i64 t.Op),.p (.str t.Name),.p (.int .i64 t.Value_Kind),.p (.int .i64 t.Value_N),.p (.str t.Value_S),.p (.slice 1 t.Value_I),.p (.slice 1 t.Value_L),.p (.slice 1 t.Kids)]
noncomputable def aN (x:Da)(k:aF→R):R:=rL x fun r0=>aI r0 fun c0 r1=>aU .i64 c0 fun v0=>aI r1 fun c1 r2=>iF c1 fun v1=>aI r2 fun c2 r3=>aU .i64 c2 fun v2=>aI r3 fun c3 r4=>aU .i64 c3 fun v3=>aI r4 fun c4 r5=>iF c4 fun v4=>aI r5 fun c5 r6=>pE 1 c5 fun v5=>aI r6 fun c6 r7=>pE 1 c6 fun v6=>aI r7 fun c7 r8=>pE 1 c7 fun v7=>av r8<|k ⟨v0,v1,v2,v3,v4,v5,v6,v7⟩
theorem gP {x:Da}{k:aF→R}{Z:R}(h:∀t:aF,x=t.e→Le (k t) Z):Le (aN x k) Z:=by
 unfold aN;refine dX fun _ q=>?_;subst q;refine ao fun _ _ q=>?_;subst q;refine bE fun _ q=>?_;subst q;refine ao fun _ _ q=>?_;subst q;refine dY fun _ q=>?_;subst q;refine ao fun _ _ q=>?_;subst q;refine bE fun _ q=>?_;subst q;refine ao fun _ _ q=>?_;subst q;refine bE fun _ q=>?_;subst q;refine ao fun _ _ q=>?_;subst q;refine dY fun _ q=>?_;subst q;refine ao fun _ _ q=>?_;subst q;refine cp fun _ q=>?_;subst q;refine ao fun _ _ q=>?_;subst q;refine cp fun _ q=>?_;subst q;refine ao fun _ _ q=>?_;subst q;refine cp fun _ q=>?_;subst q;refine bL fun q=>?_;subst q;exact h ⟨_,_,_,_,_,_,_,_⟩ rfl
structure ah where
 Name:List Nat
 Params:List Da
 Result:Int
 Nodes:List Da
def ah.e (t:ah):Da:= .agg [.str t.Name,.slice 2 t.Params,.int .i64 t.Result,.slice 8 t.Nodes]
def ah.b (t:ah):Ob:= .box [.p (.str t.Name),.p (.slice 2 t.Params),.p (.int .i64 t.Result),.p (.slice 8 t.Nodes)]
noncomputable def bx (x:Da)(k:ah→R):R:=rL x fun r0=>aI r0 fun c0 r1=>iF c0 fun v0=>aI r1 fun c1 r2=>pE 2 c1 fun v1=>aI r2 fun c2 r3=>aU .i64 c2 fun v2=>aI r3 fun c3 r4=>pE 8 c3 fun v3=>av r4<|k ⟨v0,v1,v2,v3⟩
theorem dL {x:Da}{k:ah→R}{Z:R}(h:∀t:ah,x=t.e→Le (k t) Z):Le (bx x k) Z:=by
 unfold bx;refine dX fun _ q=>?_;subst q;refine ao fun _ _ q=>?_;subst q;refine dY fun _ q=>?_;subst q;refine ao fun _ _ q=>?_;subst q;refine cp fun _ q=>?_;subst q;refine ao fun _ _ q=>?_;subst q;refine bE fun _ q=>?_;subst q;refine ao fun _ _ q=>?_;subst q;refine cp fun _ q=>?_;subst q;refine bL fun q=>?_;subst q;exact h ⟨_,_,_,_⟩ rfl
structure bI where
 Name:List Nat
 Kind:Int
 Init_Kind:Int
 Init_N:Int
 Init_S:List Nat
 Init_I:List Da
 Init_L:List Da
def bI.e (t:bI):Da:= .agg [.str t.Name,.int .i64 t.Kind,.int .i64 t.Init_Kind,.int .i64 t.Init_N,.str t.Init_S,.slice 1 t.Init_I,.slice 1 t.Init_L]
def bI.b (t:bI):Ob:= .box [.p (.str t.Name),.p (.int .i64 t.Kind),.p (.int .i64 t.Init_Kind),.p (.int .i64 t.Init_N),.p (.str t.Init_S),.p (.slice 1 t.Init_I),.p (.slice 1 t.Init_L)]
noncomputable def bg (x:Da)(k:bI→R):R:=rL x fun r0=>aI r0 fun c0 r1=>iF c0 fun v0=>aI r1 fun c1 r2=>aU .i64 c1 fun v1=>aI r2 fun c2 r3=>aU .i64 c2 fun v2=>aI r3 fun c3 r4=>aU .i64 c3 fun v3=>aI r4 fun c4 r5=>iF c4 fun v4=>aI r5 fun c5 r6=>pE 1 c5 fun v5=>aI r6 fun c6 r7=>pE 1 c6 fun v6=>av r7<|k ⟨v0,v1,v2,v3,v4,v5,v6⟩
theorem eg {x:Da}{k:bI→R}{Z:R}(h:∀t:bI,x=t.e→Le (k t) Z):Le (bg x k) Z:=by
 unfold bg;refine dX fun _ q=>?_;subst q;refine ao fun _ _ q=>?_;subst q;refine dY fun _ q=>?_;subst q;refine ao fun _ _ q=>?_;subst q;refine bE fun _ q=>?_;subst q;refine ao fun _ _ q=>?_;subst q;refine bE fun _ q=>?_;subst q;refine ao fun _ _ q=>?_;subst q;refine bE fun _ q=>?_;subst q;refine ao fun _ _ q=>?_;subst q;refine dY fun _ q=>?_;subst q;refine ao fun _ _ q=>?_;subst q;refine cp fun _ q=>?_;subst q;refine ao fun _ _ q=>?_;subst q;refine cp fun _ q=>?_;subst q;refine bL fun q=>?_;subst q;exact h ⟨_,_,_,_,_,_,_⟩ rfl
structure cQ where
 Name:List Nat
 Kind:Int
def cQ.e (t:cQ):Da:= .agg [.str t.Name,.int .i64 t.Kind]
def cQ.b (t:cQ):Ob:= .box [.p (.str t.Name),.p (.int .i64 t.Kind)]
noncomputable def bT (x:Da)(k:cQ→R):R:=rL x fun r0=>aI r0 fun c0 r1=>iF c0 fun v0=>aI r1 fun c1 r2=>aU .i64 c1 fun v1=>av r2<|k ⟨v0,v1⟩
theorem mD {x:Da}{k:cQ→R}{Z:R}(h:∀t:cQ,x=t.e→Le (k t) Z):Le (bT x k) Z:=by
 unfold bT;refine dX fun _ q=>?_;subst q;refine ao fun _ _ q=>?_;subst q;refine dY fun _ q=>?_;subst q;refine ao fun _ _ q=>?_;subst q;refine bE fun _ q=>?_;subst q;refine bL fun q=>?_;subst q;exact h ⟨_,_⟩ rfl
structure bH where
 Kind:Int
 Slot:Int
 Field:Bool
 OK:Bool
def bH.e (t:bH):Da:= .agg [.int .i64 t.Kind,.int .i64 t.Slot,.bool t.Field,.bool t.OK]
def bH.b (t:bH):Ob:= .box [.p (.int .i64 t.Kind),.p (.int .i64 t.Slot),.p (.bool t.Field),.p (.bool t.OK)]
noncomputable def bX (x:Da)(k:bH→R):R:=rL x fun r0=>aI r0 fun c0 r1=>aU .i64 c0 fun v0=>aI r1 fun c1 r2=>aU .i64 c1 fun v1=>aI r2 fun c2 r3=>aA c2 fun v2=>aI r3 fun c3 r4=>aA c3 fun v3=>av r4<|k ⟨v0,v1,v2,v3⟩
theorem lg {x:Da}{k:bH→R}{Z:R}(h:∀t:bH,x=t.e→Le (k t) Z):Le (bX x k) Z:=by
 unfold bX;refine dX fun _ q=>?_;subst q;refine ao fun _ _ q=>?_;subst q;refine bE fun _ q=>?_;subst q;refine ao fun _ _ q=>?_;subst q;refine bE fun _ q=>?_;subst q;refine ao fun _ _ q=>?_;subst q;refine dO fun _ q=>?_;subst q;refine ao fun _ _ q=>?_;subst q;refine dO fun _ q=>?_;subst q;refine bL fun q=>?_;subst q;exact h ⟨_,_,_,_⟩ rfl
structure bv where
 kind:Int
 slot:Int
 field:Bool
def bv.e (t:bv):Da:= .agg [.int .i64 t.kind,.int .i64 t.slot,.bool t.field]
def bv.b (t:bv):Ob:= .box [.p (.int .i64 t.kind),.p (.int .i64 t.slot),.p (.bool t.field)]
noncomputable def aY (x:Da)(k:bv→R):R:=rL x fun r0=>aI r0 fun c0 r1=>aU .i64 c0 fun v0=>aI r1 fun c1 r2=>aU .i64 c1 fun v1=>aI r2 fun c2 r3=>aA c2 fun v2=>av r3<|k ⟨v0,v1,v2⟩
theorem gq {x:Da}{k:bv→R}{Z:R}(h:∀t:bv,x=t.e→Le (k t) Z):Le (aY x k) Z:=by
 unfold aY;refine dX fun _ q=>?_;subst q;refine ao fun _ _ q=>?_;subst q;refine bE fun _ q=>?_;subst q;refine ao fun _ _ q=>?_;subst q;refine bE fun _ q=>?_;subst q;refine ao fun _ _ q=>?_;subst q;refine dO fun _ q=>?_;subst q;refine bL fun q=>?_;subst q;exact h ⟨_,_,_⟩ rfl
structure dC where
 locals:List Da
 kinds:Da
 variables:Da
def dC.e (t:dC):Da:= .agg [.slice 2 t.locals,t.kinds,t.variables]
def dC.b (t:dC):Ob:= .box [.p (.slice 2 t.locals),.p (t.kinds),.p (t.variables)]
noncomputable def lJ (x:Da)(k:dC→R):R:=rL x fun r0=>aI r0 fun c0 r1=>pE 2 c0 fun v0=>aI r1 fun c1 r2=>aI r2 fun c2 r3=>av r3<|k ⟨v0,c1,c2⟩
theorem Br {x:Da}{k:dC→R}{Z:R}(h:∀t:dC,x=t.e→Le (k t) Z):Le (lJ x k) Z:=by
 unfold lJ;refine dX fun _ q=>?_;subst q;refine ao fun _ _ q=>?_;subst q;refine cp fun _ q=>?_;subst q;refine ao fun _ _ q=>?_;subst q;refine ao fun _ _ q=>?_;subst q;refine bL fun q=>?_;subst q;exact h ⟨_,_,_⟩ rfl
structure ck where
 params:List Da
 result:Int
def ck.e (t:ck):Da:= .agg [.slice 1 t.params,.int .i64 t.result]
def ck.b (t:ck):Ob:= .box [.p (.slice 1 t.params),.p (.int .i64 t.result)]
noncomputable def dQ (x:Da)(k:ck→R):R:=rL x fun r0=>aI r0 fun c0 r1=>pE 1 c0 fun v0=>aI r1 fun c1 r2=>aU .i64 c1 fun v1=>av r2<|k ⟨v0,v1⟩
theorem rM {x:Da}{k:ck→R}{Z:R}(h:∀t:ck,x=t.e→Le (k t) Z):Le (dQ x k) Z:=by
 unfold dQ;refine dX fun _ q=>?_;subst q;refine ao fun _ _ q=>?_;subst q;refine cp fun _ q=>?_;subst q;refine ao fun _ _ q=>?_;subst q;refine bE fun _ q=>?_;subst q;refine bL fun q=>?_;subst q;exact h ⟨_,_⟩ rfl
structure et where
 pr:List Da
 fk:List Da
 fv:List Da
 ns:List Da
 re:Int
 ln:Nat
 nd:Int
 er:Int
 sk:List Da
 sv:List Da
 lk:List Da
 lv:List Da
 lo:List Da
 kk:List Da
 kv:List Da
 vk:List Da
 vv:List Da
def et.hp (c:et):List Ob:=[.box [.p (.slice 3 c.pr),.p (.map c.fk c.fv),.map 1,.map 2,.p (.slice 8 c.ns),.p (.int .i64 c.re),.arr 3 0 c.ln 2,.map 4,.map 5,.p (.int .i64 c.nd),.p (.int .i64 c.er)],.map c.sk c.sv,.map c.lk c.lv,.arr c.lo,.map c.kk c.kv,.map c.vk c.vv]
noncomputable def aL (o:List Ob)(k:et→R):R:=aI o fun a1 r2=>VK a1 fun l3=>aI l3 fun d4 l5=>dP d4 fun x6=>pE 3 x6 fun pr=>aI l5 fun d7 l8=>dP d7 fun x9=>U7 x9 fun fk fv=>aI l8 fun d10 l11=>dMp 1 d10<|aI l11 fun d12 l13=>dMp 2 d12<|aI l13 fun d14 l15=>dP d14 fun x16=>pE 8 x16 fun ns=>aI l15 fun d17 l18=>dP d17 fun x19=>aU .i64 x19 fun re=>aI l18 fun d20 l21=>U5 3 2 d20 fun ln=>aI l21 fun d22 l23=>dMp 4 d22<|aI l23 fun d24 l25=>dMp 5 d24<|aI l25 fun d26 l27=>dP d26 fun x28=>aU .i64 x28 fun nd=>aI l27 fun d29 l30=>dP d29 fun x31=>aU .i64 x31 fun er=>av l30<|aI r2 fun a32 r33=>Rg a32 fun sk sv=>aI r33 fun a34 r35=>Rg a34 fun lk lv=>aI r35 fun a36 r37=>EC a36 fun lo=>aI r37 fun a38 r39=>Rg a38 fun kk kv=>aI r39 fun a40 r41=>Rg a40 fun vk vv=>av r41<|k ⟨pr,fk,fv,ns,re,ln,nd,er,sk,sv,lk,lv,lo,kk,kv,vk,vv⟩
theorem wF {o:List Ob}{k:et→R}{Z:R}(h:∀c:et,o=c.hp→Le (k c) Z):Le (aL o k) Z:=by
 unfold aL;refine ao fun _ _ q=>?_;subst q;refine xp fun _ q=>?_;subst q;refine ao fun _ _ q=>?_;subst q;refine bU fun _ q=>?_;subst q;refine cp fun _ q=>?_;subst q;refine ao fun _ _ q=>?_;subst q;refine bU fun _ q=>?_;subst q;refine wD fun _ _ q=>?_;subst q;refine ao fun _ _ q=>?_;subst q;refine uZ fun q=>?_;subst q;refine ao fun _ _ q=>?_;subst q;refine uZ fun q=>?_;subst q;refine ao fun _ _ q=>?_;subst q;refine bU fun _ q=>?_;subst q;refine cp fun _ q=>?_;subst q;refine ao fun _ _ q=>?_;subst q;refine bU fun _ q=>?_;subst q;refine bE fun _ q=>?_;subst q;refine ao fun _ _ q=>?_;subst q;refine wC fun _ q=>?_;subst q;refine ao fun _ _ q=>?_;subst q;refine uZ fun q=>?_;subst q;refine ao fun _ _ q=>?_;subst q;refine uZ fun q=>?_;subst q;refine ao fun _ _ q=>?_;subst q;refine bU fun _ q=>?_;subst q;refine bE fun _ q=>?_;subst q;refine ao fun _ _ q=>?_;subst q;refine bU fun _ q=>?_;subst q;refine bE fun _ q=>?_;subst q;refine bL fun q=>?_;subst q;refine ao fun _ _ q=>?_;subst q;refine tt fun _ _ q=>?_;subst q;refine ao fun _ _ q=>?_;subst q;refine tt fun _ _ q=>?_;subst q;refine ao fun _ _ q=>?_;subst q;refine tq fun _ q=>?_;subst q;refine ao fun _ _ q=>?_;subst q;refine tt fun _ _ q=>?_;subst q;refine ao fun _ _ q=>?_;subst q;refine tt fun _ _ q=>?_;subst q;refine bL fun q=>?_;subst q;exact h ⟨_,_,_,_,_,_,_,_,_,_,_,_,_,_,_,_,_⟩ rfl
noncomputable def HJ:Rd (List Ob) et:=⟨et.hp,aL,fun _ _ _ H=>wF fun t q=>by subst q;exact H t⟩
structure oL where
 ty:List Da
 bn:Nat
 bs:List Da
def oL.hp (c:oL):List Ob:=[.box [.p (.slice 3 c.ty),.arr 1 0 c.bn 1],.arr c.bs]
noncomputable def MT (o:List Ob)(k:oL→R):R:=aI o fun a1 r2=>VK a1 fun l3=>aI l3 fun d4 l5=>dP d4 fun x6=>pE 3 x6 fun ty=>aI l5 fun d7 l8=>U5 1 1 d7 fun bn=>av l8<|aI r2 fun a9 r10=>EC a9 fun bs=>av r10<|k ⟨ty,bn,bs⟩
theorem YC {o:List Ob}{k:oL→R}{Z:R}(h:∀c:oL,o=c.hp→Le (k c) Z):Le (MT o k) Z:=by
 unfold MT;refine ao fun _ _ q=>?_;subst q;refine xp fun _ q=>?_;subst q;refine ao fun _ _ q=>?_;subst q;refine bU fun _ q=>?_;subst q;refine cp fun _ q=>?_;subst q;refine ao fun _ _ q=>?_;subst q;refine wC fun _ q=>?_;subst q;refine bL fun q=>?_;subst q;refine ao fun _ _ q=>?_;subst q;refine tq fun _ q=>?_;subst q;refine bL fun q=>?_;subst q;exact h ⟨_,_,_⟩ rfl
structure vJ where
 ts:List Da
 tn:List Nat
 tf:List Da
 tm:List Da
 mn:List Nat
 mp:List Da
 mr:Int
 ns:List Da
 ps:List Da
 ln:Nat
 ks:List Da
def vJ.hp (c:vJ):List Ob:=[.box [.p (.slice 3 c.ts),.p (.str c.tn),.p (.slice 7 c.tf),.p (.slice 4 c.tm),.p (.str c.mn),.p (.slice 2 c.mp),.p (.int .i64 c.mr),.p (.slice 8 c.ns),.p (.slice 1 c.ps),.arr 1 0 c.ln 1],.arr c.ks]
noncomputable def wE (o:List Ob)(k:vJ→R):R:=aI o fun a1 r2=>VK a1 fun l3=>aI l3 fun d4 l5=>dP d4 fun x6=>pE 3 x6 fun ts=>aI l5 fun d7 l8=>dP d7 fun x9=>iF x9 fun tn=>aI l8 fun d10 l11=>dP d10 fun x12=>pE 7 x12 fun tf=>aI l11 fun d13 l14=>dP d13 fun x15=>pE 4 x15 fun tm=>aI l14 fun d16 l17=>dP d16 fun x18=>iF x18 fun mn=>aI l17 fun d19 l20=>dP d19 fun x21=>pE 2 x21 fun mp=>aI l20 fun d22 l23=>dP d22 fun x24=>aU .i64 x24 fun mr=>aI l23 fun d25 l26=>dP d25 fun x27=>pE 8 x27 fun ns=>aI l26 fun d28 l29=>dP d28 fun x30=>pE 1 x30 fun ps=>aI l29 fun d31 l32=>U5 1 1 d31 fun ln=>av l32<|aI r2 fun a33 r34=>EC a33 fun ks=>av r34<|k ⟨ts,tn,tf,tm,mn,mp,mr,ns,ps,ln,ks⟩
theorem DP {o:List Ob}{k:vJ→R}{Z:R}(h:∀c:vJ,o=c.hp→Le (k c) Z):Le (wE o k) Z:=by
 unfold wE;refine ao fun _ _ q=>?_;subst q;refine xp fun _ q=>?_;subst q;refine ao fun _ _ q=>?_;subst q;refine bU fun _ q=>?_;subst q;refine cp fun _ q=>?_;subst q;refine ao fun _ _ q=>?_;subst q;refine bU fun _ q=>?_;subst q;refine dY fun _ q=>?_;subst q;refine ao fun _ _ q=>?_;subst q;refine bU fun _ q=>?_;subst q;refine cp fun _ q=>?_;subst q;refine ao fun _ _ q=>?_;subst q;refine bU fun _ q=>?_;subst q;refine cp fun _ q=>?_;subst q;refine ao fun _ _ q=>?_;subst q;refine bU fun _ q=>?_;subst q;refine dY fun _ q=>?_;subst q;refine ao fun _ _ q=>?_;subst q;refine bU fun _ q=>?_;subst q;refine cp fun _ q=>?_;subst q;refine ao fun _ _ q=>?_;subst q;refine bU fun _ q=>?_;subst q;refine bE fun _ q=>?_;subst q;refine ao fun _ _ q=>?_;subst q;refine bU fun _ q=>?_;subst q;refine cp fun _ q=>?_;subst q;refine ao fun _ _ q=>?_;subst q;refine bU fun _ q=>?_;subst q;refine cp fun _ q=>?_;subst q;refine ao fun _ _ q=>?_;subst q;refine wC fun _ q=>?_;subst q;refine bL fun q=>?_;subst q;refine ao fun _ _ q=>?_;subst q;refine tq fun _ q=>?_;subst q;refine bL fun q=>?_;subst q;exact h ⟨_,_,_,_,_,_,_,_,_,_,_⟩ rfl
noncomputable def aeS (hi:List Ob)(v:D)(o:List Ob)(k:KV):R:=dMp 1 v<|bj (hi++hi) o<|k (.map 1) (hi++hi)
theorem abv (hi:List Ob)(v:D)(o:List Ob)(k:KV):Le (aeS hi v o k) (k v o):=by
 unfold aeS;refine uZ fun q=>?_;subst q;exact mC fun q=>by subst q;exact Le.refl _
noncomputable def aa9:D:=(.p (.map [.str [108,101,110],.str [97,116],.str [97,112,112,101,110,100],.str [115,101,116],.str [115,116,114]] [.slice 2 [.agg [.slice 1 [.int .i64 3],.int .i64 1],.agg [.slice 1 [.int .i64 4],.int .i64 1],.agg [.slice 1 [.int .i64 5],.int .i64 1]],.slice 2 [.agg [.slice 1 [.int .i64 4,.int .i64 1],.int .i64 1],.agg [.slice 1 [.int .i64 5,.int .i64 1],.int .i64 3]],.slice 2 [.agg [.slice 1 [.int .i64 4,.int .i64 1],.int .i64 4],.agg [.slice 1 [.int .i64 5,.int .i64 3],.int .i64 5]],.slice 2 [.agg [.slice 1 [.int .i64 4,.int .i64 1,.int .i64 1],.int .i64 4],.agg [.slice 1 [.int .i64 5,.int .i64 1,.int .i64 3],.int .i64 5]],.slice 2 [.agg [.slice 1 [.int .i64 1],.int .i64 3]]]))
noncomputable def aeR (hi:List Ob)(v:D)(o:List Ob)(k:KV):R:=zk aa9 v<|bj [] o<|k aa9 []
theorem abu (hi:List Ob)(v:D)(o:List Ob)(k:KV):Le (aeR hi v o k) (k v o):=by
 unfold aeR;refine U8 fun q=>?_;subst q;exact mC fun q=>by subst q;exact Le.refl _
def Jt:D→Bool| .box _ _=>true|_=>false
noncomputable def aeP (hi:List Ob)(v:D)(o:List Ob)(k:KV):R:=bb v fun r0=>aI r0 fun d0 r1=>aI r1 fun d1 r2=>dP d1 fun x1=>cF x1 fun a1=>aI r2 fun d2 r3=>dP d2 fun x2=>aU .i64 x2 fun a2=>av r3<|iL (Jt d0) (QF 0 0 d0<|MT o fun c=>k (.tup [.box 0 0,.p a1.e,.p (.int .i64 a2)]) c.hp) (dP d0 fun x0=>dNp x0<|av o<|k (.tup [.p .nilptr,.p a1.e,.p (.int .i64 a2)]) [])
theorem abs (hi:List Ob)(v:D)(o:List Ob)(k:KV):Le (aeP hi v o k) (k v o):=by
 unfold aeP;refine kg fun _ q=>?_;subst q;refine ao fun d0 _ q=>?_;subst q;refine ao fun _ _ q=>?_;subst q;refine bU fun _ q=>?_;subst q;refine mE fun _ q=>?_;subst q;refine ao fun _ _ q=>?_;subst q;refine bU fun _ q=>?_;subst q;refine bE fun _ q=>?_;subst q;refine bL fun q=>?_;subst q
 refine Le.two (fun _=>?_) (fun _=>?_)
 ·refine I4 fun q=>?_;subst q;exact YC fun c q=>by subst q;exact Le.refl _
 ·refine bU fun _ q=>?_;subst q;refine YA fun q=>?_;subst q;refine bL fun q=>?_;subst q;exact Le.refl _
def aig:Da→Bool| .nilmap=>true|_=>false
noncomputable def aeQ (hi:List Ob)(v:D)(o:List Ob)(k:KV):R:=bb v fun r0=>aI r0 fun d0 r1=>aI r1 fun d1 r2=>dP d0 fun x0=>rL x0 fun l0=>aI l0 fun y0 l1=>pE 2 y0 fun lo=>aI l1 fun y1 l2=>aI l2 fun y2 l3=>av l3<|dP d1 fun x1=>aA x1 fun b=>av r2<|bj hi o<|iL (aig y1) (dNm y1<|dNm y2<|k (.tup [.p (.agg [.slice 2 lo,.nilmap,.nilmap]),.p (.bool b)]) hi) (U7 y1 fun kk kv=>U7 y2 fun vk vv=>k (.tup [.p (.agg [.slice 2 lo,.map kk kv,.map vk vv]),.p (.bool b)]) hi)
theorem abt (hi:List Ob)(v:D)(o:List Ob)(k:KV):Le (aeQ hi v o k) (k v o):=by
 unfold aeQ;refine kg fun _ q=>?_;subst q;refine ao fun _ _ q=>?_;subst q;refine ao fun _ _ q=>?_;subst q;refine bU fun _ q=>?_;subst q;refine dX fun _ q=>?_;subst q;refine ao fun _ _ q=>?_;subst q;refine cp fun _ q=>?_;subst q;refine ao fun _ _ q=>?_;subst q;refine ao fun _ _ q=>?_;subst q;refine bL fun q=>?_;subst q;refine bU fun _ q=>?_;subst q;refine dO fun _ q=>?_;subst q;refine bL fun q=>?_;subst q;refine mC fun q=>?_;subst q
 refine Le.two (fun _=>?_) (fun _=>?_)
 ·refine I5 fun q=>?_;subst q;refine I5 fun q=>?_;subst q;exact Le.refl _
 ·refine wD fun _ _ q=>?_;subst q;refine wD fun _ _ q=>?_;subst q;exact Le.refl _
noncomputable def aeT (hi:List Ob)(v:D)(o:List Ob)(k:KV):R:=MQ 0 7 v fun lo len=>iL (Nat.beq lo 0) (aI o fun x t=>EC x fun es=>av t<|k (.arr 0 0 len 7) [.arr es]) none
theorem abw (hi:List Ob)(v:D)(o:List Ob)(k:KV):Le (aeT hi v o k) (k v o):=by
 unfold aeT;refine MR fun lo len q=>?_
 subst q;refine Le.grd fun h=>?_
 rw[lζ h];refine ao fun _ _ q=>?_;subst q;refine tq fun _ q=>?_;subst q;refine bL fun q=>?_;subst q;exact Le.refl _
noncomputable def ca8 (hi:List Ob)(v:D)(o:List Ob)(k:KV):R:=dP v fun x0=>aA x0 fun a0=>fT hi o fun o=>k (.p (.bool a0)) o
theorem aeM (hi:List Ob)(v:D)(o:List Ob)(k:KV):Le (ca8 hi v o k) (k v o):=by
 unfold ca8;refine bU fun _ q=>?_;subst q;refine dO fun _ q=>?_;subst q;exact cW hi o (Le.refl _)
noncomputable def ca9 (hi:List Ob)(v:D)(o:List Ob)(k:KV):R:=dP v fun x0=>pE 2 x0 fun a0=>fT hi o fun o=>k (.p (.slice 2 a0)) o
theorem aeO (hi:List Ob)(v:D)(o:List Ob)(k:KV):Le (ca9 hi v o k) (k v o):=by
 unfold ca9;refine bU fun _ q=>?_;subst q;refine cp fun _ q=>?_;subst q;exact cW hi o (Le.refl _)
noncomputable def aeA (hi:List Ob)(v:D)(o:List Ob)(k:KV):R:=bb v fun r0=>aI r0 fun d0 r1=>dP d0 fun x0=>bY x0 fun a0=>aI r1 fun d1 r2=>dP d1 fun x1=>aA x1 fun a1=>av r2<|fT hi o fun o=>k (.tup [.p (a0.e),.p (.bool a1)]) o
theorem abf (hi:List Ob)(v:D)(o:List Ob)(k:KV):Le (aeA hi v o k) (k v o):=by
 unfold aeA;refine kg fun _ q=>?_;subst q;refine ao fun _ _ q=>?_;subst q;refine bU fun _ q=>?_;subst q;refine qL fun _ q=>?_;subst q;refine ao fun _ _ q=>?_;subst q;refine bU fun _ q=>?_;subst q;refine dO fun _ q=>?_;subst q;refine bL fun q=>?_;subst q;exact cW hi o (Le.refl _)
noncomputable def aeB (hi:List Ob)(v:D)(o:List Ob)(k:KV):R:=bb v fun r0=>aI r0 fun d0 r1=>dP d0 fun x0=>cF x0 fun a0=>aI r1 fun d1 r2=>dP d1 fun x1=>aU .i64 x1 fun a1=>av r2<|fT hi o fun o=>k (.tup [.p (a0.e),.p (.int .i64 a1)]) o
theorem abg (hi:List Ob)(v:D)(o:List Ob)(k:KV):Le (aeB hi v o k) (k v o):=by
 unfold aeB;refine kg fun _ q=>?_;subst q;refine ao fun _ _ q=>?_;subst q;refine bU fun _ q=>?_;subst q;refine mE fun _ q=>?_;subst q;refine ao fun _ _ q=>?_;subst q;refine bU fun _ q=>?_;subst q;refine bE fun _ q=>?_;subst q;refine bL fun q=>?_;subst q;exact cW hi o (Le.refl _)
noncomputable def aeC (hi:List Ob)(v:D)(o:List Ob)(k:KV):R:=dP v fun x0=>cG x0 fun a0=>fT hi o fun o=>k (.p (a0.e)) o
theorem abh (hi:List Ob)(v:D)(o:List Ob)(k:KV):Le (aeC hi v o k) (k v o):=by
 unfold aeC;refine bU fun _ q=>?_;subst q;refine eh fun _ q=>?_;subst q;exact cW hi o (Le.refl _)
noncomputable def aeD (hi:List Ob)(v:D)(o:List Ob)(k:KV):R:=dP v fun x0=>bY x0 fun a0=>fT hi o fun o=>k (.p (a0.e)) o
theorem abi (hi:List Ob)(v:D)(o:List Ob)(k:KV):Le (aeD hi v o k) (k v o):=by
 unfold aeD;refine bU fun _ q=>?_;subst q;refine qL fun _ q=>?_;subst q;exact cW hi o (Le.refl _)
noncomputable def aeE (hi:List Ob)(v:D)(o:List Ob)(k:KV):R:=dP v fun x0=>aA x0 fun a0=>bj hi o<|k (.p (.bool a0)) hi
theorem abj (hi:List Ob)(v:D)(o:List Ob)(k:KV):Le (aeE hi v o k) (k v o):=by
 unfold aeE;refine bU fun _ q=>?_;subst q;refine dO fun _ q=>?_;subst q;exact mC fun q=>by subst q;exact Le.refl _
noncomputable def aeF (hi:List Ob)(v:D)(o:List Ob)(k:KV):R:=bb v fun r0=>aI r0 fun d0 r1=>dP d0 fun x0=>bx x0 fun a0=>aI r1 fun d1 r2=>dP d1 fun x1=>aA x1 fun a1=>av r2<|bj hi o<|k (.tup [.p (a0.e),.p (.bool a1)]) hi
theorem abk (hi:List Ob)(v:D)(o:List Ob)(k:KV):Le (aeF hi v o k) (k v o):=by
 unfold aeF;refine kg fun _ q=>?_;subst q;refine ao fun _ _ q=>?_;subst q;refine bU fun _ q=>?_;subst q;refine dL fun _ q=>?_;subst q;refine ao fun _ _ q=>?_;subst q;refine bU fun _ q=>?_;subst q;refine dO fun _ q=>?_;subst q;refine bL fun q=>?_;subst q;exact mC fun q=>by subst q;exact Le.refl _
noncomputable def aeG (hi:List Ob)(v:D)(o:List Ob)(k:KV):R:=bb v fun r0=>aI r0 fun d0 r1=>dP d0 fun x0=>cF x0 fun a0=>aI r1 fun d1 r2=>dP d1 fun x1=>aU .i64 x1 fun a1=>aI r2 fun d2 r3=>dP d2 fun x2=>pE 1 x2 fun a2=>av r3<|fT hi o fun o=>k (.tup [.p (a0.e),.p (.int .i64 a1),.p (.slice 1 a2)]) o
theorem abl (hi:List Ob)(v:D)(o:List Ob)(k:KV):Le (aeG hi v o k) (k v o):=by
 unfold aeG;refine kg fun _ q=>?_;subst q;refine ao fun _ _ q=>?_;subst q;refine bU fun _ q=>?_;subst q;refine mE fun _ q=>?_;subst q;refine ao fun _ _ q=>?_;subst q;refine bU fun _ q=>?_;subst q;refine bE fun _ q=>?_;subst q;refine ao fun _ _ q=>?_;subst q;refine bU fun _ q=>?_;subst q;refine cp fun _ q=>?_;subst q;refine bL fun q=>?_;subst q;exact cW hi o (Le.refl _)
noncomputable def aeH (hi:List Ob)(v:D)(o:List Ob)(k:KV):R:=dP v fun x0=>aU .i64 x0 fun a0=>fT hi o fun o=>k (.p (.int .i64 a0)) o
theorem abm (hi:List Ob)(v:D)(o:List Ob)(k:KV):Le (aeH hi v o k) (k v o):=by
 unfold aeH;refine bU fun _ q=>?_;subst q;refine bE fun _ q=>?_;subst q;exact cW hi o (Le.refl _)
noncomputable def aeI (hi:List Ob)(v:D)(o:List Ob)(k:KV):R:=dP v fun x0=>bX x0 fun a0=>fT hi o fun o=>k (.p (a0.e)) o
theorem abn (hi:List Ob)(v:D)(o:List Ob)(k:KV):Le (aeI hi v o k) (k v o):=by
 unfold aeI;refine bU fun _ q=>?_;subst q;refine lg fun _ q=>?_;subst q;exact cW hi o (Le.refl _)
noncomputable def aeJ (hi:List Ob)(v:D)(o:List Ob)(k:KV):R:=dP v fun x0=>pE 1 x0 fun a0=>fT hi o fun o=>k (.p (.slice 1 a0)) o
theorem abo (hi:List Ob)(v:D)(o:List Ob)(k:KV):Le (aeJ hi v o k) (k v o):=by
 unfold aeJ;refine bU fun _ q=>?_;subst q;refine cp fun _ q=>?_;subst q;exact cW hi o (Le.refl _)
noncomputable def aeK (hi:List Ob)(v:D)(o:List Ob)(k:KV):R:=dP v fun x0=>aU .i64 x0 fun a0=>bj hi o<|k (.p (.int .i64 a0)) hi
theorem abp (hi:List Ob)(v:D)(o:List Ob)(k:KV):Le (aeK hi v o k) (k v o):=by
 unfold aeK;refine bU fun _ q=>?_;subst q;refine bE fun _ q=>?_;subst q;exact mC fun q=>by subst q;exact Le.refl _
noncomputable def aeL (hi:List Ob)(v:D)(o:List Ob)(k:KV):R:=bb v fun r0=>aI r0 fun d0 r1=>dP d0 fun x0=>lJ x0 fun a0=>aI r1 fun d1 r2=>dP d1 fun x1=>aU .i64 x1 fun a1=>aI r2 fun d2 r3=>dP d2 fun x2=>aU .i64 x2 fun a2=>av r3<|fT hi o fun o=>k (.tup [.p (a0.e),.p (.int .i64 a1),.p (.int .i64 a2)]) o
theorem abq (hi:List Ob)(v:D)(o:List Ob)(k:KV):Le (aeL hi v o k) (k v o):=by
 unfold aeL;refine kg fun _ q=>?_;subst q;refine ao fun _ _ q=>?_;subst q;refine bU fun _ q=>?_;subst q;refine Br fun _ q=>?_;subst q;refine ao fun _ _ q=>?_;subst q;refine bU fun _ q=>?_;subst q;refine bE fun _ q=>?_;subst q;refine ao fun _ _ q=>?_;subst q;refine bU fun _ q=>?_;subst q;refine bE fun _ q=>?_;subst q;refine bL fun q=>?_;subst q;exact cW hi o (Le.refl _)
noncomputable def aeN (hi:List Ob)(v:D)(o:List Ob)(k:KV):R:=dP v fun x0=>aU .i64 x0 fun a0=>wE o fun c=>k (.p (.int .i64 a0)) c.hp
theorem abr (hi:List Ob)(v:D)(o:List Ob)(k:KV):Le (aeN hi v o k) (k v o):=by
 unfold aeN;refine bU fun _ q=>?_;subst q;refine bE fun _ q=>?_;subst q;exact DP fun c q=>by subst q;exact Le.refl _
noncomputable def X1 (hi:List Ob)(v:D)(o:List Ob)(k:KV):R:=bb v fun r0=>av r0<|aL o fun c=>k (.tup []) c.hp
theorem X2 (hi:List Ob)(v:D)(o:List Ob)(k:KV):Le (X1 hi v o k) (k v o):=by
 unfold X1;refine kg fun _ q=>?_;subst q;refine bL fun q=>?_;subst q;exact wF fun c q=>by subst q;exact Le.refl _
noncomputable def X3 (hi:List Ob)(v:D)(o:List Ob)(k:KV):R:=dP v fun x0=>aU .i64 x0 fun a0=>aL o fun c=>k (.p (.int .i64 a0)) c.hp
theorem X4 (hi:List Ob)(v:D)(o:List Ob)(k:KV):Le (X3 hi v o k) (k v o):=by
 unfold X3;refine bU fun _ q=>?_;subst q;refine bE fun _ q=>?_;subst q;exact wF fun c q=>by subst q;exact Le.refl _
noncomputable def X5 (hi:List Ob)(v:D)(o:List Ob)(k:KV):R:=dP v fun x0=>pE 1 x0 fun a0=>wE o fun c=>k (.p (.slice 1 a0)) c.hp
theorem X6 (hi:List Ob)(v:D)(o:List Ob)(k:KV):Le (X5 hi v o k) (k v o):=by
 unfold X5;refine bU fun _ q=>?_;subst q;refine cp fun _ q=>?_;subst q;exact DP fun c q=>by subst q;exact Le.refl _
noncomputable def X7 (hi:List Ob)(v:D)(o:List Ob)(k:KV):R:=bb v fun r0=>aI r0 fun d0 r1=>dP d0 fun x0=>aU .i64 x0 fun a0=>aI r1 fun d1 r2=>dP d1 fun x1=>aA x1 fun a1=>av r2<|fT hi o fun o=>k (.tup [.p (.int .i64 a0),.p (.bool a1)]) o
theorem X8 (hi:List Ob)(v:D)(o:List Ob)(k:KV):Le (X7 hi v o k) (k v o):=by
 unfold X7;refine kg fun _ q=>?_;subst q;refine ao fun _ _ q=>?_;subst q;refine bU fun _ q=>?_;subst q;refine bE fun _ q=>?_;subst q;refine ao fun _ _ q=>?_;subst q;refine bU fun _ q=>?_;subst q;refine dO fun _ q=>?_;subst q;refine bL fun q=>?_;subst q;exact cW hi o (Le.refl _)
noncomputable def X9 (hi:List Ob)(v:D)(o:List Ob)(k:KV):R:=dP v fun x0=>aA x0 fun a0=>wE o fun c=>k (.p (.bool a0)) c.hp
theorem Ya (hi:List Ob)(v:D)(o:List Ob)(k:KV):Le (X9 hi v o k) (k v o):=by
 unfold X9;refine bU fun _ q=>?_;subst q;refine dO fun _ q=>?_;subst q;exact DP fun c q=>by subst q;exact Le.refl _
noncomputable def Yb (hi:List Ob)(v:D)(o:List Ob)(k:KV):R:=dP v fun x0=>iF x0 fun a0=>fT hi o fun o=>k (.p (.str a0)) o
theorem Yc (hi:List Ob)(v:D)(o:List Ob)(k:KV):Le (Yb hi v o k) (k v o):=by
 unfold Yb;refine bU fun _ q=>?_;subst q;refine dY fun _ q=>?_;subst q;exact cW hi o (Le.refl _)
noncomputable def Yd (hi:List Ob)(v:D)(o:List Ob)(k:KV):R:=dP v fun x0=>aY x0 fun a0=>aL o fun c=>k (.p (a0.e)) c.hp
theorem Ye (hi:List Ob)(v:D)(o:List Ob)(k:KV):Le (Yd hi v o k) (k v o):=by
 unfold Yd;refine bU fun _ q=>?_;subst q;refine gq fun _ q=>?_;subst q;exact wF fun c q=>by subst q;exact Le.refl _
noncomputable def Yf (hi:List Ob)(v:D)(o:List Ob)(k:KV):R:=bb v fun r0=>aI r0 fun d0 r1=>dP d0 fun x0=>aY x0 fun a0=>aI r1 fun d1 r2=>dP d1 fun x1=>aA x1 fun a1=>av r2<|bj hi o<|k (.tup [.p (a0.e),.p (.bool a1)]) hi
theorem Yg (hi:List Ob)(v:D)(o:List Ob)(k:KV):Le (Yf hi v o k) (k v o):=by
 unfold Yf;refine kg fun _ q=>?_;subst q;refine ao fun _ _ q=>?_;subst q;refine bU fun _ q=>?_;subst q;refine gq fun _ q=>?_;subst q;refine ao fun _ _ q=>?_;subst q;refine bU fun _ q=>?_;subst q;refine dO fun _ q=>?_;subst q;refine bL fun q=>?_;subst q;exact mC fun q=>by subst q;exact Le.refl _
noncomputable def caT (f:Nat)(hi:List Ob)(v:D)(o:List Ob)(k:KV):R:=bif Nat.beq f 41 then aeT hi v o k else bif Nat.beq f 228 then aeS hi v o k else bif Nat.beq f 269 then aeR hi v o k else bif Nat.beq f 53 then aeP hi v o k else bif Nat.beq f 92 then aeQ hi v o k else bif cZ f [8,12,40,43,45,50,71,80,84,93,94,114,121,124,125,126,133,142,143,144,145,156,157,158,164,165,174,175,176,177,178,199,200,201,204,221,225,226,227,229,245,247,248,249,264,292,293]then ca8 hi v o k else bif cZ f [9]then ca9 hi v o k else bif cZ f [10,11]then aeA hi v o k else bif cZ f [18,78]then aeB hi v o k else bif cZ f [42,79]then aeC hi v o k else bif cZ f [44]then aeD hi v o k else bif cZ f [46,48,85,86,87,89,91,122,123,205,219,220,222,223,224,231,232,267]then aeE hi v o k else bif cZ f [54]then aeF hi v o k else bif cZ f [57]then aeG hi v o k else bif cZ f [58,59,100,130,131,161,163,179,186,187,197,218,237,246,265]then aeH hi v o k else bif cZ f [61]then aeI hi v o k else bif cZ f [62,76,77]then aeJ hi v o k else bif cZ f [81,90]then aeK hi v o k else bif cZ f [88]then aeL hi v o k else bif cZ f [95]then aeN hi v o k else bif cZ f [127,180,183,184,230,236]then X1 hi v o k else bif cZ f [128,181,182,234,235]then X3 hi v o k else bif cZ f [129]then X5 hi v o k else bif cZ f [132]then X7 hi v o k else bif cZ f [134]then X9 hi v o k else bif cZ f [185]then Yb hi v o k else bif cZ f [233]then Yd hi v o k else bif cZ f [268]then Yf hi v o k else k v o
noncomputable def mvT (z:D)(x:Da)(k:Da→R):R:=match z with| .p (.int i _)=>aU i x fun n=>k (.int i n)| .p (.bool _)=>aA x fun b=>k (.bool b)| .p (.agg cs)=>bif Nat.beq cs.length 3 then aY x fun t=>k t.e else k x|_=>k x
noncomputable def elI (z:Nat)(x:Da)(k:Da→R):R:=bif Nat.beq z 8 then aN x fun t=>k t.e else bif Nat.beq z 3 then aR x fun t=>k t.e else bif Nat.beq z 4 then bx x fun t=>k t.e else bif Nat.beq z 7 then bg x fun t=>k t.e else bif Nat.beq z 2 then bT x fun t=>k t.e else bif Nat.beq z 5 then cG x fun t=>k t.e else bif Nat.beq z 1 then aU .i64 x fun i=>k (.int .i64 i)else bif Nat.beq z 0 then aU .i64 x fun i=>k (.int .i64 i)else k x
noncomputable def elS (z:Nat)(x:Da)(k:Da→R):R:=bif Nat.beq z 8 then aN x fun t=>k t.e else bif Nat.beq z 3 then aR x fun t=>k t.e else bif Nat.beq z 4 then bx x fun t=>k t.e else bif Nat.beq z 7 then bg x fun t=>k t.e else bif Nat.beq z 2 then bT x fun t=>k t.e else bif Nat.beq z 5 then cG x fun t=>k t.e else bif Nat.beq z 1 then iF x fun s=>k (.str s)else bif Nat.beq z 0 then iF x fun s=>k (.str s)else k x
noncomputable def elG (z:Nat)(x:Da)(k:Da→R):R:=bif Nat.beq z 8 then aN x fun t=>k t.e else bif Nat.beq z 3 then aR x fun t=>k t.e else bif Nat.beq z 4 then bx x fun t=>k t.e else bif Nat.beq z 7 then bg x fun t=>k t.e else bif Nat.beq z 2 then dQ x fun t=>k t.e else bif Nat.beq z 5 then cG x fun t=>k t.e else bif Nat.beq z 1 then aU .i64 x fun i=>k (.int .i64 i)else bif Nat.beq z 0 then aU .i64 x fun i=>k (.int .i64 i)else k x
noncomputable def elV (z:Nat)(x:Da)(k:Da→R):R:=bif Nat.beq z 8 then aN x fun t=>k t.e else bif Nat.beq z 3 then aR x fun t=>k t.e else bif Nat.beq z 4 then bx x fun t=>k t.e else bif Nat.beq z 7 then bg x fun t=>k t.e else bif Nat.beq z 2 then gQ x fun t=>k t.e else bif Nat.beq z 5 then cG x fun t=>k t.e else bif Nat.beq z 1 then iF x fun s=>k (.str s)else bif Nat.beq z 0 then iF x fun s=>k (.str s)else k x
noncomputable def elF (z:Nat)(x:Da)(k:Da→R):R:=bif Nat.beq z 8 then aN x fun t=>k t.e else bif Nat.beq z 3 then aR x fun t=>k t.e else bif Nat.beq z 4 then bx x fun t=>k t.e else bif Nat.beq z 7 then bg x fun t=>k t.e else bif Nat.beq z 2 then bT x fun t=>k t.e else bif Nat.beq z 5 then cG x fun t=>k t.e else bif Nat.beq z 3005 then bg x fun t=>k t.e else bif Nat.beq z 1 then aU .i64 x fun i=>k (.int .i64 i)else bif Nat.beq z 0 then aU .i64 x fun i=>k (.int .i64 i)else k x
noncomputable def dcI:oH:=⟨elI,caT,mvT,false,true,false⟩
noncomputable def ahZ:oH:=⟨elI,caT,mvT,false,false,false⟩
noncomputable def ahY:oH:=⟨elI,caT,mvT,true,true,false⟩
noncomputable def dcS:oH:=⟨elS,caT,mvT,false,true,false⟩
noncomputable def ahX:oH:=⟨elG,caT,mvT,true,true,false⟩
noncomputable def ah0:oH:=⟨elV,caT,mvT,false,false,false⟩
noncomputable def ahW:oH:=⟨elF,caT,mvT,false,false,true⟩
theorem QH (z:Nat)(x:Da)(k:Da→R):Le (elI z x k) (k x):=by
 unfold elI;cases Nat.beq z 8<;>simp only[cond_true,cond_false];rotate_left
 ·exact gP fun _ q=>by subst q;exact Le.refl _
 cases Nat.beq z 3<;>simp only[cond_true,cond_false];rotate_left
 ·exact dy fun _ q=>by subst q;exact Le.refl _
 cases Nat.beq z 4<;>simp only[cond_true,cond_false];rotate_left
 ·exact dL fun _ q=>by subst q;exact Le.refl _
 cases Nat.beq z 7<;>simp only[cond_true,cond_false];rotate_left
 ·exact eg fun _ q=>by subst q;exact Le.refl _
 cases Nat.beq z 2<;>simp only[cond_true,cond_false];rotate_left
 ·exact mD fun _ q=>by subst q;exact Le.refl _
 cases Nat.beq z 5<;>simp only[cond_true,cond_false];rotate_left
 ·exact eh fun _ q=>by subst q;exact Le.refl _
 cases Nat.beq z 1<;>simp only[cond_true,cond_false];cases Nat.beq z 0<;>simp only[cond_true,cond_false]
 ·exact Le.refl _
 all_goals exact bE fun _ q=>by subst q;exact Le.refl _
theorem ae9 (z:Nat)(x:Da)(k:Da→R):Le (elS z x k) (k x):=by
 unfold elS;cases Nat.beq z 8<;>simp only[cond_true,cond_false];rotate_left
 ·exact gP fun _ q=>by subst q;exact Le.refl _
 cases Nat.beq z 3<;>simp only[cond_true,cond_false];rotate_left
 ·exact dy fun _ q=>by subst q;exact Le.refl _
 cases Nat.beq z 4<;>simp only[cond_true,cond_false];rotate_left
 ·exact dL fun _ q=>by subst q;exact Le.refl _
 cases Nat.beq z 7<;>simp only[cond_true,cond_false];rotate_left
 ·exact eg fun _ q=>by subst q;exact Le.refl _
 cases Nat.beq z 2<;>simp only[cond_true,cond_false];rotate_left
 ·exact mD fun _ q=>by subst q;exact Le.refl _
 cases Nat.beq z 5<;>simp only[cond_true,cond_false];rotate_left
 ·exact eh fun _ q=>by subst q;exact Le.refl _
 cases Nat.beq z 1<;>simp only[cond_true,cond_false];cases Nat.beq z 0<;>simp only[cond_true,cond_false]
 ·exact Le.refl _
 all_goals exact dY fun _ q=>by subst q;exact Le.refl _
theorem ae8 (z:Nat)(x:Da)(k:Da→R):Le (elG z x k) (k x):=by
 unfold elG;cases Nat.beq z 8<;>simp only[cond_true,cond_false];rotate_left
 ·exact gP fun _ q=>by subst q;exact Le.refl _
 cases Nat.beq z 3<;>simp only[cond_true,cond_false];rotate_left
 ·exact dy fun _ q=>by subst q;exact Le.refl _
 cases Nat.beq z 4<;>simp only[cond_true,cond_false];rotate_left
 ·exact dL fun _ q=>by subst q;exact Le.refl _
 cases Nat.beq z 7<;>simp only[cond_true,cond_false];rotate_left
 ·exact eg fun _ q=>by subst q;exact Le.refl _
 cases Nat.beq z 2<;>simp only[cond_true,cond_false];rotate_left
 ·exact rM fun _ q=>by subst q;exact Le.refl _
 cases Nat.beq z 5<;>simp only[cond_true,cond_false];rotate_left
 ·exact eh fun _ q=>by subst q;exact Le.refl _
 cases Nat.beq z 1<;>simp only[cond_true,cond_false];cases Nat.beq z 0<;>simp only[cond_true,cond_false]
 ·exact Le.refl _
 all_goals exact bE fun _ q=>by subst q;exact Le.refl _
theorem afa (z:Nat)(x:Da)(k:Da→R):Le (elV z x k) (k x):=by
 unfold elV;cases Nat.beq z 8<;>simp only[cond_true,cond_false];rotate_left
 ·exact gP fun _ q=>by subst q;exact Le.refl _
 cases Nat.beq z 3<;>simp only[cond_true,cond_false];rotate_left
 ·exact dy fun _ q=>by subst q;exact Le.refl _
 cases Nat.beq z 4<;>simp only[cond_true,cond_false];rotate_left
 ·exact dL fun _ q=>by subst q;exact Le.refl _
 cases Nat.beq z 7<;>simp only[cond_true,cond_false];rotate_left
 ·exact eg fun _ q=>by subst q;exact Le.refl _
 cases Nat.beq z 2<;>simp only[cond_true,cond_false];rotate_left
 ·exact zm fun _ q=>by subst q;exact Le.refl _
 cases Nat.beq z 5<;>simp only[cond_true,cond_false];rotate_left
 ·exact eh fun _ q=>by subst q;exact Le.refl _
 cases Nat.beq z 1<;>simp only[cond_true,cond_false];cases Nat.beq z 0<;>simp only[cond_true,cond_false]
 ·exact Le.refl _
 all_goals exact dY fun _ q=>by subst q;exact Le.refl _
theorem ae7 (z:Nat)(x:Da)(k:Da→R):Le (elF z x k) (k x):=by
 unfold elF;cases Nat.beq z 8<;>simp only[cond_true,cond_false];rotate_left
 ·exact gP fun _ q=>by subst q;exact Le.refl _
 cases Nat.beq z 3<;>simp only[cond_true,cond_false];rotate_left
 ·exact dy fun _ q=>by subst q;exact Le.refl _
 cases Nat.beq z 4<;>simp only[cond_true,cond_false];rotate_left
 ·exact dL fun _ q=>by subst q;exact Le.refl _
 cases Nat.beq z 7<;>simp only[cond_true,cond_false];rotate_left
 ·exact eg fun _ q=>by subst q;exact Le.refl _
 cases Nat.beq z 2<;>simp only[cond_true,cond_false];rotate_left
 ·exact mD fun _ q=>by subst q;exact Le.refl _
 cases Nat.beq z 5<;>simp only[cond_true,cond_false];rotate_left
 ·exact eh fun _ q=>by subst q;exact Le.refl _
 cases Nat.beq z 3005<;>simp only[cond_true,cond_false];rotate_left
 ·exact eg fun _ q=>by subst q;exact Le.refl _
 cases Nat.beq z 1<;>simp only[cond_true,cond_false];cases Nat.beq z 0<;>simp only[cond_true,cond_false]
 ·exact Le.refl _
 all_goals exact bE fun _ q=>by subst q;exact Le.refl _
theorem uY (f:Nat)(hi:List Ob)(v:D)(o:List Ob)(k:KV):Le (caT f hi v o k) (k v o):=by
 unfold caT;cases Nat.beq f 41<;>simp only[cond_true,cond_false];rotate_left
 ·exact abw hi v o k
 cases Nat.beq f 228<;>simp only[cond_true,cond_false];rotate_left
 ·exact abv hi v o k
 cases Nat.beq f 269<;>simp only[cond_true,cond_false];rotate_left
 ·exact abu hi v o k
 cases Nat.beq f 53<;>simp only[cond_true,cond_false];rotate_left
 ·exact abs hi v o k
 cases Nat.beq f 92<;>simp only[cond_true,cond_false];rotate_left
 ·exact abt hi v o k
 cases cZ f _<;>simp only[cond_true,cond_false];rotate_left
 ·exact aeM hi v o k
 cases cZ f _<;>simp only[cond_true,cond_false];rotate_left
 ·exact aeO hi v o k
 cases cZ f _<;>simp only[cond_true,cond_false];rotate_left
 ·exact abf hi v o k
 cases cZ f _<;>simp only[cond_true,cond_false];rotate_left
 ·exact abg hi v o k
 cases cZ f _<;>simp only[cond_true,cond_false];rotate_left
 ·exact abh hi v o k
 cases cZ f _<;>simp only[cond_true,cond_false];rotate_left
 ·exact abi hi v o k
 cases cZ f _<;>simp only[cond_true,cond_false];rotate_left
 ·exact abj hi v o k
 cases cZ f _<;>simp only[cond_true,cond_false];rotate_left
 ·exact abk hi v o k
 cases cZ f _<;>simp only[cond_true,cond_false];rotate_left
 ·exact abl hi v o k
 cases cZ f _<;>simp only[cond_true,cond_false];rotate_left
 ·exact abm hi v o k
 cases cZ f _<;>simp only[cond_true,cond_false];rotate_left
 ·exact abn hi v o k
 cases cZ f _<;>simp only[cond_true,cond_false];rotate_left
 ·exact abo hi v o k
 cases cZ f _<;>simp only[cond_true,cond_false];rotate_left
 ·exact abp hi v o k
 cases cZ f _<;>simp only[cond_true,cond_false];rotate_left
 ·exact abq hi v o k
 cases cZ f _<;>simp only[cond_true,cond_false];rotate_left
 ·exact abr hi v o k
 cases cZ f _<;>simp only[cond_true,cond_false];rotate_left
 ·exact X2 hi v o k
 cases cZ f _<;>simp only[cond_true,cond_false];rotate_left
 ·exact X4 hi v o k
 cases cZ f _<;>simp only[cond_true,cond_false];rotate_left
 ·exact X6 hi v o k
 cases cZ f _<;>simp only[cond_true,cond_false];rotate_left
 ·exact X8 hi v o k
 cases cZ f _<;>simp only[cond_true,cond_false];rotate_left
 ·exact Ya hi v o k
 cases cZ f _<;>simp only[cond_true,cond_false];rotate_left
 ·exact Yc hi v o k
 cases cZ f _<;>simp only[cond_true,cond_false];rotate_left
 ·exact Ye hi v o k
 cases cZ f _<;>simp only[cond_true,cond_false];rotate_left
 ·exact Yg hi v o k
 exact Le.refl _
theorem vr (z:D)(x:Da)(k:Da→R):Le (mvT z x k) (k x):=by
 unfold mvT;split
 ·exact bE fun _ q=>by subst q;exact Le.refl _
 ·exact dO fun _ q=>by subst q;exact Le.refl _
 ·skip
  cases Nat.beq _ 3<;>simp only[cond_true,cond_false];rotate_left
  ·exact gq fun _ q=>by subst q;exact Le.refl _
  exact Le.refl _
 ·exact Le.refl _
theorem aj:(dcI).Ok:=⟨QH,uY,vr⟩
theorem Sl:(ahY).Ok:=⟨QH,uY,vr⟩
theorem lK:(ahZ).Ok:=⟨QH,uY,vr⟩
theorem eH:(dcS).Ok:=⟨ae9,uY,vr⟩
theorem I6:(ahX).Ok:=⟨ae8,uY,vr⟩
theorem abC:(ah0).Ok:=⟨afa,uY,vr⟩
theorem wG:(ahW).Ok:=⟨ae7,uY,vr⟩
noncomputable def ez (f:Nat):Fx:=(jY prog0 globs0 gT f).getD ⟨.skip,[],false⟩
theorem cB (lp:ab→cJ)(F:ab→R){f n m:Nat}{dc:oH}{args:List D}{hp:List Ob}(hd:dc.Ok)(hx:lay0.tab f=some (.code (ez f)))(hm:fq f args hp.length=m)(hl:∀{cc:ab} {call:aJ},bA cc call→∀e∈de (ez f).body 1,bm (lp cc) call n m e)(h:∀cc,acR m (lp cc) dc cc n (ez f) args hp=F cc):Le (F (bq lay0.tab n)) (evFn lay0.tab (n+1) f args hp):=
 agW hd hx hm (hl (Y3 _ _)) (h _)
end Go.Ab
