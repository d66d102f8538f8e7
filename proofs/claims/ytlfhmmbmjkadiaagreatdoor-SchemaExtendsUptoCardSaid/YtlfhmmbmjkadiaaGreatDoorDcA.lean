import Derived.Test.YtlfhmmbmjkadiaaGreatDoorAl
import Derived.Test.YtlfhmmbmjkadiaaGreatDoorAwZ
import Derived.KernelRfl
set_option linter.all false
namespace Go.Ab
open Go
set_option maxRecDepth 100000
instance mvG:Mv:=⟨fun f=>dh f [127,128,180,183,236]⟩
noncomputable def bj (hi o:List Ob)(k:R):R:= @ite _ (o=hi) (Classical.propDecidable _) k none
theorem m9 {hi o:List Ob}{k Z:R}(h:o=hi→Le k Z):Le (bj hi o k) Z:=by
 unfold bj;split
 ·rename_i e;exact h e
 ·exact Le.no _
noncomputable def Aj (c d:D)(k:R):R:= @ite _ (d=c) (Classical.propDecidable _) k none
theorem Wf {c d:D}{k Z:R}(h:d=c→Le k Z):Le (Aj c d k) Z:=by
 unfold Aj;split
 ·rename_i e;exact h e
 ·exact Le.no _
theorem ZL (c:D)(k:R):Aj c c k=k:=by
 unfold Aj;exact if_pos rfl
theorem bt (hi:List Ob)(k:R):bj hi hi k=k:=by
 unfold bj;exact if_pos rfl
structure aa where
 Types:List Da
def aa.e (t:aa):Da:= .agg [.slice 3 t.Types]
def aa.b (t:aa):Ob:= .box [.p (.slice 3 t.Types)]
noncomputable def hZ (x:Da)(k:aa→R):R:=rI x fun r0=>aK r0 fun c0 r1=>qO 3 c0 fun v0=>aw r1<|k ⟨v0⟩
theorem Ak {x:Da}{k:aa→R}{Z:R}(h:∀t:aa,x=t.e→Le (k t) Z):Le (hZ x k) Z:=by
 unfold hZ;refine dR fun _ q=>?_;subst q;refine ao fun _ _ q=>?_;subst q;refine cn fun _ q=>?_;subst q;refine bI fun q=>?_;subst q;exact h ⟨_⟩ rfl
structure eC where
 Program_Types:List Da
 Migrators:List Da
def eC.e (t:eC):Da:= .agg [.slice 3 t.Program_Types,.slice 2 t.Migrators]
def eC.b (t:eC):Ob:= .box [.p (.slice 3 t.Program_Types),.p (.slice 2 t.Migrators)]
noncomputable def fo (x:Da)(k:eC→R):R:=rI x fun r0=>aK r0 fun c0 r1=>qO 3 c0 fun v0=>aK r1 fun c1 r2=>qO 2 c1 fun v1=>aw r2<|k ⟨v0,v1⟩
theorem Al {x:Da}{k:eC→R}{Z:R}(h:∀t:eC,x=t.e→Le (k t) Z):Le (fo x k) Z:=by
 unfold fo;refine dR fun _ q=>?_;subst q;refine ao fun _ _ q=>?_;subst q;refine cn fun _ q=>?_;subst q;refine ao fun _ _ q=>?_;subst q;refine cn fun _ q=>?_;subst q;refine bI fun q=>?_;subst q;exact h ⟨_,_⟩ rfl
structure ae where
 Name:List Nat
 Fields:List Da
 Methods:List Da
def ae.e (t:ae):Da:= .agg [.str t.Name,.slice 7 t.Fields,.slice 4 t.Methods]
def ae.b (t:ae):Ob:= .box [.p (.str t.Name),.p (.slice 7 t.Fields),.p (.slice 4 t.Methods)]
noncomputable def aF (x:Da)(k:ae→R):R:=rI x fun r0=>aK r0 fun c0 r1=>j1 c0 fun v0=>aK r1 fun c1 r2=>qO 7 c1 fun v1=>aK r2 fun c2 r3=>qO 4 c2 fun v2=>aw r3<|k ⟨v0,v1,v2⟩
theorem cT {x:Da}{k:ae→R}{Z:R}(h:∀t:ae,x=t.e→Le (k t) Z):Le (aF x k) Z:=by
 unfold aF;refine dR fun _ q=>?_;subst q;refine ao fun _ _ q=>?_;subst q;refine eM fun _ q=>?_;subst q;refine ao fun _ _ q=>?_;subst q;refine cn fun _ q=>?_;subst q;refine ao fun _ _ q=>?_;subst q;refine cn fun _ q=>?_;subst q;refine bI fun q=>?_;subst q;exact h ⟨_,_,_⟩ rfl
structure bq where
 Type_:Int
 Method:Int
 Node:Int
def bq.e (t:bq):Da:= .agg [.int .i64 t.Type_,.int .i64 t.Method,.int .i64 t.Node]
def bq.b (t:bq):Ob:= .box [.p (.int .i64 t.Type_),.p (.int .i64 t.Method),.p (.int .i64 t.Node)]
noncomputable def cf (x:Da)(k:bq→R):R:=rI x fun r0=>aK r0 fun c0 r1=>aU .i64 c0 fun v0=>aK r1 fun c1 r2=>aU .i64 c1 fun v1=>aK r2 fun c2 r3=>aU .i64 c2 fun v2=>aw r3<|k ⟨v0,v1,v2⟩
theorem ne {x:Da}{k:bq→R}{Z:R}(h:∀t:bq,x=t.e→Le (k t) Z):Le (cf x k) Z:=by
 unfold cf;refine dR fun _ q=>?_;subst q;refine ao fun _ _ q=>?_;subst q;refine bF fun _ q=>?_;subst q;refine ao fun _ _ q=>?_;subst q;refine bF fun _ q=>?_;subst q;refine ao fun _ _ q=>?_;subst q;refine bF fun _ q=>?_;subst q;refine bI fun q=>?_;subst q;exact h ⟨_,_,_⟩ rfl
structure dt where
 Params:List Da
 Result:Int
def dt.e (t:dt):Da:= .agg [.slice 1 t.Params,.int .i64 t.Result]
def dt.b (t:dt):Ob:= .box [.p (.slice 1 t.Params),.p (.int .i64 t.Result)]
noncomputable def cJ (x:Da)(k:dt→R):R:=rI x fun r0=>aK r0 fun c0 r1=>qO 1 c0 fun v0=>aK r1 fun c1 r2=>aU .i64 c1 fun v1=>aw r2<|k ⟨v0,v1⟩
theorem wa {x:Da}{k:dt→R}{Z:R}(h:∀t:dt,x=t.e→Le (k t) Z):Le (cJ x k) Z:=by
 unfold cJ;refine dR fun _ q=>?_;subst q;refine ao fun _ _ q=>?_;subst q;refine cn fun _ q=>?_;subst q;refine ao fun _ _ q=>?_;subst q;refine bF fun _ q=>?_;subst q;refine bI fun q=>?_;subst q;exact h ⟨_,_⟩ rfl
structure aP where
 Kind:Int
 N:Int
 S:List Nat
 I:List Da
 L:List Da
def aP.e (t:aP):Da:= .agg [.int .i64 t.Kind,.int .i64 t.N,.str t.S,.slice 1 t.I,.slice 1 t.L]
def aP.b (t:aP):Ob:= .box [.p (.int .i64 t.Kind),.p (.int .i64 t.N),.p (.str t.S),.p (.slice 1 t.I),.p (.slice 1 t.L)]
noncomputable def f0 (x:Da)(k:aP→R):R:=rI x fun r0=>aK r0 fun c0 r1=>aU .i64 c0 fun v0=>aK r1 fun c1 r2=>aU .i64 c1 fun v1=>aK r2 fun c2 r3=>j1 c2 fun v2=>aK r3 fun c3 r4=>qO 1 c3 fun v3=>aK r4 fun c4 r5=>qO 1 c4 fun v4=>aw r5<|k ⟨v0,v1,v2,v3,v4⟩
theorem f9 {x:Da}{k:aP→R}{Z:R}(h:∀t:aP,x=t.e→Le (k t) Z):Le (f0 x k) Z:=by
 unfold f0;refine dR fun _ q=>?_;subst q;refine ao fun _ _ q=>?_;subst q;refine bF fun _ q=>?_;subst q;refine ao fun _ _ q=>?_;subst q;refine bF fun _ q=>?_;subst q;refine ao fun _ _ q=>?_;subst q;refine eM fun _ q=>?_;subst q;refine ao fun _ _ q=>?_;subst q;refine cn fun _ q=>?_;subst q;refine ao fun _ _ q=>?_;subst q;refine cn fun _ q=>?_;subst q;refine bI fun q=>?_;subst q;exact h ⟨_,_,_,_,_⟩ rfl
structure aG where
 Op:Int
 Name:List Nat
 Value_Kind:Int
 Value_N:Int
 Value_S:List Nat
 Value_I:List Da
 Value_L:List Da
 Kids:List Da
def aG.e (t:aG):Da:= .agg [.int .i64 t.Op,.str t.Name,.int .i64 t.Value_Kind,.int .i64 t.Value_N,.str t.Value_S,.slice 1 t.Value_I,.slice 1 t.Value_L,.slice 1 t.Kids]
def aG.b (t:aG):Ob:= .box [.p (.int .i64 t.Op),.p (.str t.Name),.p (.int .i64 t.Value_Kind),.p (.int .i64 t.Value_N),.p (.str t.Value_S),.p (.slice 1 t.Value_I),.p (.slice 1 t.Value_L),.p (.slice 1 t.Kids)]
noncomputable def aS (x:Da)(k:aG→R):R:=rI x fun r0=>aK r0 fun c0 r1=>aU .i64 c0 fun v0=>aK r1 fun c1 r2=>j1 c1 fun v1=>aK r2 fun c2 r3=>aU .i64 c2 fun v2=>aK r3 fun c3 r4=>aU .i64 c3 fun v3=>aK r4 fun c4 r5=>j1 c4 fun v4=>aK r5 fun c5 r6=>qO 1 c5 fun v5=>aK r6 fun c6 r7=>qO 1 c6 fun v6=>aK r7 fun c7 r8=>qO 1 c7 fun v7=>aw r8<|k ⟨v0,v1,v2,v3,v4,v5,v6,v7⟩
theorem hY {x:Da}{k:aG→R}{Z:R}(h:∀t:aG,x=t.e→Le (k t) Z):Le (aS x k) Z:=by
 unfold aS;refine dR fun _ q=>?_;subst q;refine ao fun _ _ q=>?_;subst q;refine bF fun _ q=>?_;subst q;refine ao fun _ _ q=>?_;subst q;refine eM fun _ q=>?_;subst q;refine ao fun _ _ q=>?_;subst q;refine bF fun _ q=>?_;subst q;refine ao fun _ _ q=>?_;subst q;refine bF fun _ q=>?_;subst q;refine ao fun _ _ q=>?_;subst q;refine eM fun _ q=>?_;subst q;refine ao fun _ _ q=>?_;subst q;refine cn fun _ q=>?_;subst q;refine ao fun _ _ q=>?_;subst q;refine cn fun _ q=>?_;subst q;refine ao fun _ _ q=>?_;subst q;refine cn fun _ q=>?_;subst q;refine bI fun q=>?_;subst q;exact h ⟨_,_,_,_,_,_,_,_⟩ rfl
structure ah where
 Name:List Nat
 Params:List Da
 Result:Int
 Nodes:List Da
def ah.e (t:ah):Da:= .agg [.str t.Name,.slice 2 t.Params,.int .i64 t.Result,.slice 8 t.Nodes]
def ah.b (t:ah):Ob:= .box [.p (.str t.Name),.p (.slice 2 t.Params),.p (.int .i64 t.Result),.p (.slice 8 t.Nodes)]
noncomputable def aZ (x:Da)(k:ah→R):R:=rI x fun r0=>aK r0 fun c0 r1=>j1 c0 fun v0=>aK r1 fun c1 r2=>qO 2 c1 fun v1=>aK r2 fun c2 r3=>aU .i64 c2 fun v2=>aK r3 fun c3 r4=>qO 8 c3 fun v3=>aw r4<|k ⟨v0,v1,v2,v3⟩
theorem cI {x:Da}{k:ah→R}{Z:R}(h:∀t:ah,x=t.e→Le (k t) Z):Le (aZ x k) Z:=by
 unfold aZ;refine dR fun _ q=>?_;subst q;refine ao fun _ _ q=>?_;subst q;refine eM fun _ q=>?_;subst q;refine ao fun _ _ q=>?_;subst q;refine cn fun _ q=>?_;subst q;refine ao fun _ _ q=>?_;subst q;refine bF fun _ q=>?_;subst q;refine ao fun _ _ q=>?_;subst q;refine cn fun _ q=>?_;subst q;refine bI fun q=>?_;subst q;exact h ⟨_,_,_,_⟩ rfl
structure bS where
 Name:List Nat
 Kind:Int
 Init_Kind:Int
 Init_N:Int
 Init_S:List Nat
 Init_I:List Da
 Init_L:List Da
def bS.e (t:bS):Da:= .agg [.str t.Name,.int .i64 t.Kind,.int .i64 t.Init_Kind,.int .i64 t.Init_N,.str t.Init_S,.slice 1 t.Init_I,.slice 1 t.Init_L]
def bS.b (t:bS):Ob:= .box [.p (.str t.Name),.p (.int .i64 t.Kind),.p (.int .i64 t.Init_Kind),.p (.int .i64 t.Init_N),.p (.str t.Init_S),.p (.slice 1 t.Init_I),.p (.slice 1 t.Init_L)]
noncomputable def cd (x:Da)(k:bS→R):R:=rI x fun r0=>aK r0 fun c0 r1=>j1 c0 fun v0=>aK r1 fun c1 r2=>aU .i64 c1 fun v1=>aK r2 fun c2 r3=>aU .i64 c2 fun v2=>aK r3 fun c3 r4=>aU .i64 c3 fun v3=>aK r4 fun c4 r5=>j1 c4 fun v4=>aK r5 fun c5 r6=>qO 1 c5 fun v5=>aK r6 fun c6 r7=>qO 1 c6 fun v6=>aw r7<|k ⟨v0,v1,v2,v3,v4,v5,v6⟩
theorem fZ {x:Da}{k:bS→R}{Z:R}(h:∀t:bS,x=t.e→Le (k t) Z):Le (cd x k) Z:=by
 unfold cd;refine dR fun _ q=>?_;subst q;refine ao fun _ _ q=>?_;subst q;refine eM fun _ q=>?_;subst q;refine ao fun _ _ q=>?_;subst q;refine bF fun _ q=>?_;subst q;refine ao fun _ _ q=>?_;subst q;refine bF fun _ q=>?_;subst q;refine ao fun _ _ q=>?_;subst q;refine bF fun _ q=>?_;subst q;refine ao fun _ _ q=>?_;subst q;refine eM fun _ q=>?_;subst q;refine ao fun _ _ q=>?_;subst q;refine cn fun _ q=>?_;subst q;refine ao fun _ _ q=>?_;subst q;refine cn fun _ q=>?_;subst q;refine bI fun q=>?_;subst q;exact h ⟨_,_,_,_,_,_,_⟩ rfl
structure cQ where
 Name:List Nat
 Kind:Int
def cQ.e (t:cQ):Da:= .agg [.str t.Name,.int .i64 t.Kind]
def cQ.b (t:cQ):Ob:= .box [.p (.str t.Name),.p (.int .i64 t.Kind)]
noncomputable def bL (x:Da)(k:cQ→R):R:=rI x fun r0=>aK r0 fun c0 r1=>j1 c0 fun v0=>aK r1 fun c1 r2=>aU .i64 c1 fun v1=>aw r2<|k ⟨v0,v1⟩
theorem nb {x:Da}{k:cQ→R}{Z:R}(h:∀t:cQ,x=t.e→Le (k t) Z):Le (bL x k) Z:=by
 unfold bL;refine dR fun _ q=>?_;subst q;refine ao fun _ _ q=>?_;subst q;refine eM fun _ q=>?_;subst q;refine ao fun _ _ q=>?_;subst q;refine bF fun _ q=>?_;subst q;refine bI fun q=>?_;subst q;exact h ⟨_,_⟩ rfl
structure bJ where
 Kind:Int
 Slot:Int
 Field:Bool
 OK:Bool
def bJ.e (t:bJ):Da:= .agg [.int .i64 t.Kind,.int .i64 t.Slot,.bool t.Field,.bool t.OK]
def bJ.b (t:bJ):Ob:= .box [.p (.int .i64 t.Kind),.p (.int .i64 t.Slot),.p (.bool t.Field),.p (.bool t.OK)]
noncomputable def bZ (x:Da)(k:bJ→R):R:=rI x fun r0=>aK r0 fun c0 r1=>aU .i64 c0 fun v0=>aK r1 fun c1 r2=>aU .i64 c1 fun v1=>aK r2 fun c2 r3=>az c2 fun v2=>aK r3 fun c3 r4=>az c3 fun v3=>aw r4<|k ⟨v0,v1,v2,v3⟩
theorem lI {x:Da}{k:bJ→R}{Z:R}(h:∀t:bJ,x=t.e→Le (k t) Z):Le (bZ x k) Z:=by
 unfold bZ;refine dR fun _ q=>?_;subst q;refine ao fun _ _ q=>?_;subst q;refine bF fun _ q=>?_;subst q;refine ao fun _ _ q=>?_;subst q;refine bF fun _ q=>?_;subst q;refine ao fun _ _ q=>?_;subst q;refine dS fun _ q=>?_;subst q;refine ao fun _ _ q=>?_;subst q;refine dS fun _ q=>?_;subst q;refine bI fun q=>?_;subst q;exact h ⟨_,_,_,_⟩ rfl
structure bA where
 kind:Int
 slot:Int
 field:Bool
def bA.e (t:bA):Da:= .agg [.int .i64 t.kind,.int .i64 t.slot,.bool t.field]
def bA.b (t:bA):Ob:= .box [.p (.int .i64 t.kind),.p (.int .i64 t.slot),.p (.bool t.field)]
noncomputable def bb (x:Da)(k:bA→R):R:=rI x fun r0=>aK r0 fun c0 r1=>aU .i64 c0 fun v0=>aK r1 fun c1 r2=>aU .i64 c1 fun v1=>aK r2 fun c2 r3=>az c2 fun v2=>aw r3<|k ⟨v0,v1,v2⟩
theorem gI {x:Da}{k:bA→R}{Z:R}(h:∀t:bA,x=t.e→Le (k t) Z):Le (bb x k) Z:=by
 unfold bb;refine dR fun _ q=>?_;subst q;refine ao fun _ _ q=>?_;subst q;refine bF fun _ q=>?_;subst q;refine ao fun _ _ q=>?_;subst q;refine bF fun _ q=>?_;subst q;refine ao fun _ _ q=>?_;subst q;refine dS fun _ q=>?_;subst q;refine bI fun q=>?_;subst q;exact h ⟨_,_,_⟩ rfl
structure dG where
 locals:List Da
 kinds:Da
 variables:Da
def dG.e (t:dG):Da:= .agg [.slice 2 t.locals,t.kinds,t.variables]
def dG.b (t:dG):Ob:= .box [.p (.slice 2 t.locals),.p (t.kinds),.p (t.variables)]
noncomputable def mi (x:Da)(k:dG→R):R:=rI x fun r0=>aK r0 fun c0 r1=>qO 2 c0 fun v0=>aK r1 fun c1 r2=>aK r2 fun c2 r3=>aw r3<|k ⟨v0,c1,c2⟩
theorem Ci {x:Da}{k:dG→R}{Z:R}(h:∀t:dG,x=t.e→Le (k t) Z):Le (mi x k) Z:=by
 unfold mi;refine dR fun _ q=>?_;subst q;refine ao fun _ _ q=>?_;subst q;refine cn fun _ q=>?_;subst q;refine ao fun _ _ q=>?_;subst q;refine ao fun _ _ q=>?_;subst q;refine bI fun q=>?_;subst q;exact h ⟨_,_,_⟩ rfl
structure aJ where
 params:List Da
 result:Int
def aJ.e (t:aJ):Da:= .agg [.slice 1 t.params,.int .i64 t.result]
def aJ.b (t:aJ):Ob:= .box [.p (.slice 1 t.params),.p (.int .i64 t.result)]
noncomputable def dT (x:Da)(k:aJ→R):R:=rI x fun r0=>aK r0 fun c0 r1=>qO 1 c0 fun v0=>aK r1 fun c1 r2=>aU .i64 c1 fun v1=>aw r2<|k ⟨v0,v1⟩
theorem sK {x:Da}{k:aJ→R}{Z:R}(h:∀t:aJ,x=t.e→Le (k t) Z):Le (dT x k) Z:=by
 unfold dT;refine dR fun _ q=>?_;subst q;refine ao fun _ _ q=>?_;subst q;refine cn fun _ q=>?_;subst q;refine ao fun _ _ q=>?_;subst q;refine bF fun _ q=>?_;subst q;refine bI fun q=>?_;subst q;exact h ⟨_,_⟩ rfl
structure eA where
 pr:List Da
 fk:List Da
 fv:List Da
 ns:List Da
 re:Int
 ln:Nat
 nd:Int
 er:Int
 sk:List Da
 sv:List Da
 lk:List Da
 lv:List Da
 lo:List Da
 kk:List Da
 kv:List Da
 vk:List Da
 vv:List Da
def eA.hp (c:eA):List Ob:=[.box [.p (.slice 3 c.pr),.p (.map c.fk c.fv),.map 1,.map 2,.p (.slice 8 c.ns),.p (.int .i64 c.re),.arr 3 0 c.ln 2,.map 4,.map 5,.p (.int .i64 c.nd),.p (.int .i64 c.er)],.map c.sk c.sv,.map c.lk c.lv,.arr c.lo,.map c.kk c.kv,.map c.vk c.vv]
noncomputable def aQ (o:List Ob)(k:eA→R):R:=aK o fun a1 r2=>WP a1 fun l3=>aK l3 fun d4 l5=>dP d4 fun x6=>qO 3 x6 fun pr=>aK l5 fun d7 l8=>dP d7 fun x9=>We x9 fun fk fv=>aK l8 fun d10 l11=>dMp 1 d10<|aK l11 fun d12 l13=>dMp 2 d12<|aK l13 fun d14 l15=>dP d14 fun x16=>qO 8 x16 fun ns=>aK l15 fun d17 l18=>dP d17 fun x19=>aU .i64 x19 fun re=>aK l18 fun d20 l21=>Wc 3 2 d20 fun ln=>aK l21 fun d22 l23=>dMp 4 d22<|aK l23 fun d24 l25=>dMp 5 d24<|aK l25 fun d26 l27=>dP d26 fun x28=>aU .i64 x28 fun nd=>aK l27 fun d29 l30=>dP d29 fun x31=>aU .i64 x31 fun er=>aw l30<|aK r2 fun a32 r33=>Ss a32 fun sk sv=>aK r33 fun a34 r35=>Ss a34 fun lk lv=>aK r35 fun a36 r37=>Ln a36 fun lo=>aK r37 fun a38 r39=>Ss a38 fun kk kv=>aK r39 fun a40 r41=>Ss a40 fun vk vv=>aw r41<|k ⟨pr,fk,fv,ns,re,ln,nd,er,sk,sv,lk,lv,lo,kk,kv,vk,vv⟩
theorem xB {o:List Ob}{k:eA→R}{Z:R}(h:∀c:eA,o=c.hp→Le (k c) Z):Le (aQ o k) Z:=by
 unfold aQ;refine ao fun _ _ q=>?_;subst q;refine yn fun _ q=>?_;subst q;refine ao fun _ _ q=>?_;subst q;refine bW fun _ q=>?_;subst q;refine cn fun _ q=>?_;subst q;refine ao fun _ _ q=>?_;subst q;refine bW fun _ q=>?_;subst q;refine xz fun _ _ q=>?_;subst q;refine ao fun _ _ q=>?_;subst q;refine vY fun q=>?_;subst q;refine ao fun _ _ q=>?_;subst q;refine vY fun q=>?_;subst q;refine ao fun _ _ q=>?_;subst q;refine bW fun _ q=>?_;subst q;refine cn fun _ q=>?_;subst q;refine ao fun _ _ q=>?_;subst q;refine bW fun _ q=>?_;subst q;refine bF fun _ q=>?_;subst q;refine ao fun _ _ q=>?_;subst q;refine xy fun _ q=>?_;subst q;refine ao fun _ _ q=>?_;subst q;refine vY fun q=>?_;subst q;refine ao fun _ _ q=>?_;subst q;refine vY fun q=>?_;subst q;refine ao fun _ _ q=>?_;subst q;refine bW fun _ q=>?_;subst q;refine bF fun _ q=>?_;subst q;refine ao fun _ _ q=>?_;subst q;refine bW fun _ q=>?_;subst q;refine bF fun _ q=>?_;subst q;refine bI fun q=>?_;subst q;refine ao fun _ _ q=>?_;subst q;refine uf fun _ _ q=>?_;subst q;refine ao fun _ _ q=>?_;subst q;refine uf fun _ _ q=>?_;subst q;refine ao fun _ _ q=>?_;subst q;refine ue fun _ q=>?_;subst q;refine ao fun _ _ q=>?_;subst q;refine uf fun _ _ q=>?_;subst q;refine ao fun _ _ q=>?_;subst q;refine uf fun _ _ q=>?_;subst q;refine bI fun q=>?_;subst q;exact h ⟨_,_,_,_,_,_,_,_,_,_,_,_,_,_,_,_,_⟩ rfl
noncomputable def IV:Rd (List Ob) eA:=⟨eA.hp,aQ,fun _ _ _ H=>xB fun t q=>by subst q;exact H t⟩
structure po where
 ty:List Da
 bn:Nat
 bs:List Da
def po.hp (c:po):List Ob:=[.box [.p (.slice 3 c.ty),.arr 1 0 c.bn 1],.arr c.bs]
noncomputable def N9 (o:List Ob)(k:po→R):R:=aK o fun a1 r2=>WP a1 fun l3=>aK l3 fun d4 l5=>dP d4 fun x6=>qO 3 x6 fun ty=>aK l5 fun d7 l8=>Wc 1 1 d7 fun bn=>aw l8<|aK r2 fun a9 r10=>Ln a9 fun bs=>aw r10<|k ⟨ty,bn,bs⟩
theorem ZM {o:List Ob}{k:po→R}{Z:R}(h:∀c:po,o=c.hp→Le (k c) Z):Le (N9 o k) Z:=by
 unfold N9;refine ao fun _ _ q=>?_;subst q;refine yn fun _ q=>?_;subst q;refine ao fun _ _ q=>?_;subst q;refine bW fun _ q=>?_;subst q;refine cn fun _ q=>?_;subst q;refine ao fun _ _ q=>?_;subst q;refine xy fun _ q=>?_;subst q;refine bI fun q=>?_;subst q;refine ao fun _ _ q=>?_;subst q;refine ue fun _ q=>?_;subst q;refine bI fun q=>?_;subst q;exact h ⟨_,_,_⟩ rfl
structure wK where
 ts:List Da
 tn:List Nat
 tf:List Da
 tm:List Da
 mn:List Nat
 mp:List Da
 mr:Int
 ns:List Da
 ps:List Da
 ln:Nat
 ks:List Da
def wK.hp (c:wK):List Ob:=[.box [.p (.slice 3 c.ts),.p (.str c.tn),.p (.slice 7 c.tf),.p (.slice 4 c.tm),.p (.str c.mn),.p (.slice 2 c.mp),.p (.int .i64 c.mr),.p (.slice 8 c.ns),.p (.slice 1 c.ps),.arr 1 0 c.ln 1],.arr c.ks]
noncomputable def xA (o:List Ob)(k:wK→R):R:=aK o fun a1 r2=>WP a1 fun l3=>aK l3 fun d4 l5=>dP d4 fun x6=>qO 3 x6 fun ts=>aK l5 fun d7 l8=>dP d7 fun x9=>j1 x9 fun tn=>aK l8 fun d10 l11=>dP d10 fun x12=>qO 7 x12 fun tf=>aK l11 fun d13 l14=>dP d13 fun x15=>qO 4 x15 fun tm=>aK l14 fun d16 l17=>dP d16 fun x18=>j1 x18 fun mn=>aK l17 fun d19 l20=>dP d19 fun x21=>qO 2 x21 fun mp=>aK l20 fun d22 l23=>dP d22 fun x24=>aU .i64 x24 fun mr=>aK l23 fun d25 l26=>dP d25 fun x27=>qO 8 x27 fun ns=>aK l26 fun d28 l29=>dP d28 fun x30=>qO 1 x30 fun ps=>aK l29 fun d31 l32=>Wc 1 1 d31 fun ln=>aw l32<|aK r2 fun a33 r34=>Ln a33 fun ks=>aw r34<|k ⟨ts,tn,tf,tm,mn,mp,mr,ns,ps,ln,ks⟩
theorem EQ {o:List Ob}{k:wK→R}{Z:R}(h:∀c:wK,o=c.hp→Le (k c) Z):Le (xA o k) Z:=by
 unfold xA;refine ao fun _ _ q=>?_;subst q;refine yn fun _ q=>?_;subst q;refine ao fun _ _ q=>?_;subst q;refine bW fun _ q=>?_;subst q;refine cn fun _ q=>?_;subst q;refine ao fun _ _ q=>?_;subst q;refine bW fun _ q=>?_;subst q;refine eM fun _ q=>?_;subst q;refine ao fun _ _ q=>?_;subst q;refine bW fun _ q=>?_;subst q;refine cn fun _ q=>?_;subst q;refine ao fun _ _ q=>?_;subst q;refine bW fun _ q=>?_;subst q;refine cn fun _ q=>?_;subst q;refine ao fun _ _ q=>?_;subst q;refine bW fun _ q=>?_;subst q;refine eM fun _ q=>?_;subst q;refine ao fun _ _ q=>?_;subst q;refine bW fun _ q=>?_;subst q;refine cn fun _ q=>?_;subst q;refine ao fun _ _ q=>?_;subst q;refine bW fun _ q=>?_;subst q;refine bF fun _ q=>?_;subst q;refine ao fun _ _ q=>?_;subst q;refine bW fun _ q=>?_;subst q;refine cn fun _ q=>?_;subst q;refine ao fun _ _ q=>?_;subst q;refine bW fun _ q=>?_;subst q;refine cn fun _ q=>?_;subst q;refine ao fun _ _ q=>?_;subst q;refine xy fun _ q=>?_;subst q;refine bI fun q=>?_;subst q;refine ao fun _ _ q=>?_;subst q;refine ue fun _ q=>?_;subst q;refine bI fun q=>?_;subst q;exact h ⟨_,_,_,_,_,_,_,_,_,_,_⟩ rfl
noncomputable def afZ (hi:List Ob)(v:D)(o:List Ob)(k:KV):R:=dMp 1 v<|bj (hi++hi) o<|k (.map 1) (hi++hi)
theorem acC (hi:List Ob)(v:D)(o:List Ob)(k:KV):Le (afZ hi v o k) (k v o):=by
 unfold afZ;refine vY fun q=>?_;subst q;exact m9 fun q=>by subst q;exact Le.refl _
noncomputable def acg:D:=(.p (.map [.str [108,101,110],.str [97,116],.str [97,112,112,101,110,100],.str [115,101,116],.str [115,116,114]] [.slice 2 [.agg [.slice 1 [.int .i64 3],.int .i64 1],.agg [.slice 1 [.int .i64 4],.int .i64 1],.agg [.slice 1 [.int .i64 5],.int .i64 1]],.slice 2 [.agg [.slice 1 [.int .i64 4,.int .i64 1],.int .i64 1],.agg [.slice 1 [.int .i64 5,.int .i64 1],.int .i64 3]],.slice 2 [.agg [.slice 1 [.int .i64 4,.int .i64 1],.int .i64 4],.agg [.slice 1 [.int .i64 5,.int .i64 3],.int .i64 5]],.slice 2 [.agg [.slice 1 [.int .i64 4,.int .i64 1,.int .i64 1],.int .i64 4],.agg [.slice 1 [.int .i64 5,.int .i64 1,.int .i64 3],.int .i64 5]],.slice 2 [.agg [.slice 1 [.int .i64 1],.int .i64 3]]]))
noncomputable def afY (hi:List Ob)(v:D)(o:List Ob)(k:KV):R:=Aj acg v<|bj [] o<|k acg []
theorem acB (hi:List Ob)(v:D)(o:List Ob)(k:KV):Le (afY hi v o k) (k v o):=by
 unfold afY;refine Wf fun q=>?_;subst q;exact m9 fun q=>by subst q;exact Le.refl _
def KH:D→Bool| .box _ _=>true|_=>false
noncomputable def afW (hi:List Ob)(v:D)(o:List Ob)(k:KV):R:=bd v fun r0=>aK r0 fun d0 r1=>aK r1 fun d1 r2=>dP d1 fun x1=>cf x1 fun a1=>aK r2 fun d2 r3=>dP d2 fun x2=>aU .i64 x2 fun a2=>aw r3<|iL (KH d0) (RP 0 0 d0<|N9 o fun c=>k (.tup [.box 0 0,.p a1.e,.p (.int .i64 a2)]) c.hp) (dP d0 fun x0=>dNp x0<|aw o<|k (.tup [.p .nilptr,.p a1.e,.p (.int .i64 a2)]) [])
theorem acz (hi:List Ob)(v:D)(o:List Ob)(k:KV):Le (afW hi v o k) (k v o):=by
 unfold afW;refine kJ fun _ q=>?_;subst q;refine ao fun d0 _ q=>?_;subst q;refine ao fun _ _ q=>?_;subst q;refine bW fun _ q=>?_;subst q;refine ne fun _ q=>?_;subst q;refine ao fun _ _ q=>?_;subst q;refine bW fun _ q=>?_;subst q;refine bF fun _ q=>?_;subst q;refine bI fun q=>?_;subst q
 refine Le.two (fun _=>?_) (fun _=>?_)
 ·refine Kf fun q=>?_;subst q;exact ZM fun c q=>by subst q;exact Le.refl _
 ·refine bW fun _ q=>?_;subst q;refine ZK fun q=>?_;subst q;refine bI fun q=>?_;subst q;exact Le.refl _
def ajl:Da→Bool| .nilmap=>true|_=>false
noncomputable def afX (hi:List Ob)(v:D)(o:List Ob)(k:KV):R:=bd v fun r0=>aK r0 fun d0 r1=>aK r1 fun d1 r2=>dP d0 fun x0=>rI x0 fun l0=>aK l0 fun y0 l1=>qO 2 y0 fun lo=>aK l1 fun y1 l2=>aK l2 fun y2 l3=>aw l3<|dP d1 fun x1=>az x1 fun b=>aw r2<|bj hi o<|iL (ajl y1) (dNm y1<|dNm y2<|k (.tup [.p (.agg [.slice 2 lo,.nilmap,.nilmap]),.p (.bool b)]) hi) (We y1 fun kk kv=>We y2 fun vk vv=>k (.tup [.p (.agg [.slice 2 lo,.map kk kv,.map vk vv]),.p (.bool b)]) hi)
theorem acA (hi:List Ob)(v:D)(o:List Ob)(k:KV):Le (afX hi v o k) (k v o):=by
 unfold afX;refine kJ fun _ q=>?_;subst q;refine ao fun _ _ q=>?_;subst q;refine ao fun _ _ q=>?_;subst q;refine bW fun _ q=>?_;subst q;refine dR fun _ q=>?_;subst q;refine ao fun _ _ q=>?_;subst q;refine cn fun _ q=>?_;subst q;refine ao fun _ _ q=>?_;subst q;refine ao fun _ _ q=>?_;subst q;refine bI fun q=>?_;subst q;refine bW fun _ q=>?_;subst q;refine dS fun _ q=>?_;subst q;refine bI fun q=>?_;subst q;refine m9 fun q=>?_;subst q
 refine Le.two (fun _=>?_) (fun _=>?_)
 ·refine Kg fun q=>?_;subst q;refine Kg fun q=>?_;subst q;exact Le.refl _
 ·refine xz fun _ _ q=>?_;subst q;refine xz fun _ _ q=>?_;subst q;exact Le.refl _
noncomputable def af0 (hi:List Ob)(v:D)(o:List Ob)(k:KV):R:=ZF 0 7 v fun lo len=>iL (Nat.beq lo 0) (aK o fun x t=>Ln x fun es=>aw t<|k (.arr 0 0 len 7) [.arr es]) none
theorem acD (hi:List Ob)(v:D)(o:List Ob)(k:KV):Le (af0 hi v o k) (k v o):=by
 unfold af0;refine N8 fun lo len q=>?_
 subst q;refine Le.grd fun h=>?_
 rw[lζ h];refine ao fun _ _ q=>?_;subst q;refine ue fun _ q=>?_;subst q;refine bI fun q=>?_;subst q;exact Le.refl _
noncomputable def ca8 (hi:List Ob)(v:D)(o:List Ob)(k:KV):R:=dP v fun x0=>az x0 fun a0=>gK hi o fun o=>k (.p (.bool a0)) o
theorem afT (hi:List Ob)(v:D)(o:List Ob)(k:KV):Le (ca8 hi v o k) (k v o):=by
 unfold ca8;refine bW fun _ q=>?_;subst q;refine dS fun _ q=>?_;subst q;exact dy hi o (Le.refl _)
noncomputable def ca9 (hi:List Ob)(v:D)(o:List Ob)(k:KV):R:=dP v fun x0=>qO 2 x0 fun a0=>gK hi o fun o=>k (.p (.slice 2 a0)) o
theorem afV (hi:List Ob)(v:D)(o:List Ob)(k:KV):Le (ca9 hi v o k) (k v o):=by
 unfold ca9;refine bW fun _ q=>?_;subst q;refine cn fun _ q=>?_;subst q;exact dy hi o (Le.refl _)
noncomputable def afI (hi:List Ob)(v:D)(o:List Ob)(k:KV):R:=dP v fun x0=>hZ x0 fun a0=>gK hi o fun o=>k (.p (a0.e)) o
theorem acm (hi:List Ob)(v:D)(o:List Ob)(k:KV):Le (afI hi v o k) (k v o):=by
 unfold afI;refine bW fun _ q=>?_;subst q;refine Ak fun _ q=>?_;subst q;exact dy hi o (Le.refl _)
noncomputable def afJ (hi:List Ob)(v:D)(o:List Ob)(k:KV):R:=bd v fun r0=>aK r0 fun d0 r1=>dP d0 fun x0=>cf x0 fun a0=>aK r1 fun d1 r2=>dP d1 fun x1=>aU .i64 x1 fun a1=>aw r2<|gK hi o fun o=>k (.tup [.p (a0.e),.p (.int .i64 a1)]) o
theorem acn (hi:List Ob)(v:D)(o:List Ob)(k:KV):Le (afJ hi v o k) (k v o):=by
 unfold afJ;refine kJ fun _ q=>?_;subst q;refine ao fun _ _ q=>?_;subst q;refine bW fun _ q=>?_;subst q;refine ne fun _ q=>?_;subst q;refine ao fun _ _ q=>?_;subst q;refine bW fun _ q=>?_;subst q;refine bF fun _ q=>?_;subst q;refine bI fun q=>?_;subst q;exact dy hi o (Le.refl _)
noncomputable def afK (hi:List Ob)(v:D)(o:List Ob)(k:KV):R:=bd v fun r0=>aK r0 fun d0 r1=>dP d0 fun x0=>cJ x0 fun a0=>aK r1 fun d1 r2=>dP d1 fun x1=>az x1 fun a1=>aw r2<|gK hi o fun o=>k (.tup [.p (a0.e),.p (.bool a1)]) o
theorem aco (hi:List Ob)(v:D)(o:List Ob)(k:KV):Le (afK hi v o k) (k v o):=by
 unfold afK;refine kJ fun _ q=>?_;subst q;refine ao fun _ _ q=>?_;subst q;refine bW fun _ q=>?_;subst q;refine wa fun _ q=>?_;subst q;refine ao fun _ _ q=>?_;subst q;refine bW fun _ q=>?_;subst q;refine dS fun _ q=>?_;subst q;refine bI fun q=>?_;subst q;exact dy hi o (Le.refl _)
noncomputable def afL (hi:List Ob)(v:D)(o:List Ob)(k:KV):R:=dP v fun x0=>az x0 fun a0=>bj hi o<|k (.p (.bool a0)) hi
theorem acp (hi:List Ob)(v:D)(o:List Ob)(k:KV):Le (afL hi v o k) (k v o):=by
 unfold afL;refine bW fun _ q=>?_;subst q;refine dS fun _ q=>?_;subst q;exact m9 fun q=>by subst q;exact Le.refl _
noncomputable def afM (hi:List Ob)(v:D)(o:List Ob)(k:KV):R:=dP v fun x0=>aU .i64 x0 fun a0=>gK hi o fun o=>k (.p (.int .i64 a0)) o
theorem acq (hi:List Ob)(v:D)(o:List Ob)(k:KV):Le (afM hi v o k) (k v o):=by
 unfold afM;refine bW fun _ q=>?_;subst q;refine bF fun _ q=>?_;subst q;exact dy hi o (Le.refl _)
noncomputable def afN (hi:List Ob)(v:D)(o:List Ob)(k:KV):R:=bd v fun r0=>aK r0 fun d0 r1=>dP d0 fun x0=>aZ x0 fun a0=>aK r1 fun d1 r2=>dP d1 fun x1=>az x1 fun a1=>aw r2<|bj hi o<|k (.tup [.p (a0.e),.p (.bool a1)]) hi
theorem acr (hi:List Ob)(v:D)(o:List Ob)(k:KV):Le (afN hi v o k) (k v o):=by
 unfold afN;refine kJ fun _ q=>?_;subst q;refine ao fun _ _ q=>?_;subst q;refine bW fun _ q=>?_;subst q;refine cI fun _ q=>?_;subst q;refine ao fun _ _ q=>?_;subst q;refine bW fun _ q=>?_;subst q;refine dS fun _ q=>?_;subst q;refine bI fun q=>?_;subst q;exact m9 fun q=>by subst q;exact Le.refl _
noncomputable def afO (hi:List Ob)(v:D)(o:List Ob)(k:KV):R:=bd v fun r0=>aK r0 fun d0 r1=>dP d0 fun x0=>cf x0 fun a0=>aK r1 fun d1 r2=>dP d1 fun x1=>aU .i64 x1 fun a1=>aK r2 fun d2 r3=>dP d2 fun x2=>qO 1 x2 fun a2=>aw r3<|gK hi o fun o=>k (.tup [.p (a0.e),.p (.int .i64 a1),.p (.slice 1 a2)]) o
theorem acs (hi:List Ob)(v:D)(o:List Ob)(k:KV):Le (afO hi v o k) (k v o):=by
 unfold afO;refine kJ fun _ q=>?_;subst q;refine ao fun _ _ q=>?_;subst q;refine bW fun _ q=>?_;subst q;refine ne fun _ q=>?_;subst q;refine ao fun _ _ q=>?_;subst q;refine bW fun _ q=>?_;subst q;refine bF fun _ q=>?_;subst q;refine ao fun _ _ q=>?_;subst q;refine bW fun _ q=>?_;subst q;refine cn fun _ q=>?_;subst q;refine bI fun q=>?_;subst q;exact dy hi o (Le.refl _)
noncomputable def afP (hi:List Ob)(v:D)(o:List Ob)(k:KV):R:=dP v fun x0=>bZ x0 fun a0=>gK hi o fun o=>k (.p (a0.e)) o
theorem acu (hi:List Ob)(v:D)(o:List Ob)(k:KV):Le (afP hi v o k) (k v o):=by
 unfold afP;refine bW fun _ q=>?_;subst q;refine lI fun _ q=>?_;subst q;exact dy hi o (Le.refl _)
noncomputable def afQ (hi:List Ob)(v:D)(o:List Ob)(k:KV):R:=dP v fun x0=>qO 1 x0 fun a0=>gK hi o fun o=>k (.p (.slice 1 a0)) o
theorem acv (hi:List Ob)(v:D)(o:List Ob)(k:KV):Le (afQ hi v o k) (k v o):=by
 unfold afQ;refine bW fun _ q=>?_;subst q;refine cn fun _ q=>?_;subst q;exact dy hi o (Le.refl _)
noncomputable def afR (hi:List Ob)(v:D)(o:List Ob)(k:KV):R:=dP v fun x0=>aU .i64 x0 fun a0=>bj hi o<|k (.p (.int .i64 a0)) hi
theorem acw (hi:List Ob)(v:D)(o:List Ob)(k:KV):Le (afR hi v o k) (k v o):=by
 unfold afR;refine bW fun _ q=>?_;subst q;refine bF fun _ q=>?_;subst q;exact m9 fun q=>by subst q;exact Le.refl _
noncomputable def afS (hi:List Ob)(v:D)(o:List Ob)(k:KV):R:=bd v fun r0=>aK r0 fun d0 r1=>dP d0 fun x0=>mi x0 fun a0=>aK r1 fun d1 r2=>dP d1 fun x1=>aU .i64 x1 fun a1=>aK r2 fun d2 r3=>dP d2 fun x2=>aU .i64 x2 fun a2=>aw r3<|gK hi o fun o=>k (.tup [.p (a0.e),.p (.int .i64 a1),.p (.int .i64 a2)]) o
theorem acx (hi:List Ob)(v:D)(o:List Ob)(k:KV):Le (afS hi v o k) (k v o):=by
 unfold afS;refine kJ fun _ q=>?_;subst q;refine ao fun _ _ q=>?_;subst q;refine bW fun _ q=>?_;subst q;refine Ci fun _ q=>?_;subst q;refine ao fun _ _ q=>?_;subst q;refine bW fun _ q=>?_;subst q;refine bF fun _ q=>?_;subst q;refine ao fun _ _ q=>?_;subst q;refine bW fun _ q=>?_;subst q;refine bF fun _ q=>?_;subst q;refine bI fun q=>?_;subst q;exact dy hi o (Le.refl _)
noncomputable def afU (hi:List Ob)(v:D)(o:List Ob)(k:KV):R:=dP v fun x0=>aU .i64 x0 fun a0=>xA o fun c=>k (.p (.int .i64 a0)) c.hp
theorem acy (hi:List Ob)(v:D)(o:List Ob)(k:KV):Le (afU hi v o k) (k v o):=by
 unfold afU;refine bW fun _ q=>?_;subst q;refine bF fun _ q=>?_;subst q;exact EQ fun c q=>by subst q;exact Le.refl _
noncomputable def Zb (hi:List Ob)(v:D)(o:List Ob)(k:KV):R:=bd v fun r0=>aw r0<|aQ o fun c=>k (.tup []) c.hp
theorem Zc (hi:List Ob)(v:D)(o:List Ob)(k:KV):Le (Zb hi v o k) (k v o):=by
 unfold Zb;refine kJ fun _ q=>?_;subst q;refine bI fun q=>?_;subst q;exact xB fun c q=>by subst q;exact Le.refl _
noncomputable def Zd (hi:List Ob)(v:D)(o:List Ob)(k:KV):R:=dP v fun x0=>aU .i64 x0 fun a0=>aQ o fun c=>k (.p (.int .i64 a0)) c.hp
theorem Ze (hi:List Ob)(v:D)(o:List Ob)(k:KV):Le (Zd hi v o k) (k v o):=by
 unfold Zd;refine bW fun _ q=>?_;subst q;refine bF fun _ q=>?_;subst q;exact xB fun c q=>by subst q;exact Le.refl _
noncomputable def Zf (hi:List Ob)(v:D)(o:List Ob)(k:KV):R:=dP v fun x0=>qO 1 x0 fun a0=>xA o fun c=>k (.p (.slice 1 a0)) c.hp
theorem Zg (hi:List Ob)(v:D)(o:List Ob)(k:KV):Le (Zf hi v o k) (k v o):=by
 unfold Zf;refine bW fun _ q=>?_;subst q;refine cn fun _ q=>?_;subst q;exact EQ fun c q=>by subst q;exact Le.refl _
noncomputable def Zh (hi:List Ob)(v:D)(o:List Ob)(k:KV):R:=bd v fun r0=>aK r0 fun d0 r1=>dP d0 fun x0=>aU .i64 x0 fun a0=>aK r1 fun d1 r2=>dP d1 fun x1=>az x1 fun a1=>aw r2<|gK hi o fun o=>k (.tup [.p (.int .i64 a0),.p (.bool a1)]) o
theorem Zi (hi:List Ob)(v:D)(o:List Ob)(k:KV):Le (Zh hi v o k) (k v o):=by
 unfold Zh;refine kJ fun _ q=>?_;subst q;refine ao fun _ _ q=>?_;subst q;refine bW fun _ q=>?_;subst q;refine bF fun _ q=>?_;subst q;refine ao fun _ _ q=>?_;subst q;refine bW fun _ q=>?_;subst q;refine dS fun _ q=>?_;subst q;refine bI fun q=>?_;subst q;exact dy hi o (Le.refl _)
noncomputable def Zj (hi:List Ob)(v:D)(o:List Ob)(k:KV):R:=dP v fun x0=>az x0 fun a0=>xA o fun c=>k (.p (.bool a0)) c.hp
theorem Zk (hi:List Ob)(v:D)(o:List Ob)(k:KV):Le (Zj hi v o k) (k v o):=by
 unfold Zj;refine bW fun _ q=>?_;subst q;refine dS fun _ q=>?_;subst q;exact EQ fun c q=>by subst q;exact Le.refl _
noncomputable def Zl (hi:List Ob)(v:D)(o:List Ob)(k:KV):R:=dP v fun x0=>j1 x0 fun a0=>gK hi o fun o=>k (.p (.str a0)) o
theorem Zm (hi:List Ob)(v:D)(o:List Ob)(k:KV):Le (Zl hi v o k) (k v o):=by
 unfold Zl;refine bW fun _ q=>?_;subst q;refine eM fun _ q=>?_;subst q;exact dy hi o (Le.refl _)
noncomputable def Zn (hi:List Ob)(v:D)(o:List Ob)(k:KV):R:=dP v fun x0=>bb x0 fun a0=>aQ o fun c=>k (.p (a0.e)) c.hp
theorem Zo (hi:List Ob)(v:D)(o:List Ob)(k:KV):Le (Zn hi v o k) (k v o):=by
 unfold Zn;refine bW fun _ q=>?_;subst q;refine gI fun _ q=>?_;subst q;exact xB fun c q=>by subst q;exact Le.refl _
noncomputable def Zp (hi:List Ob)(v:D)(o:List Ob)(k:KV):R:=bd v fun r0=>aK r0 fun d0 r1=>dP d0 fun x0=>bb x0 fun a0=>aK r1 fun d1 r2=>dP d1 fun x1=>az x1 fun a1=>aw r2<|bj hi o<|k (.tup [.p (a0.e),.p (.bool a1)]) hi
theorem Zq (hi:List Ob)(v:D)(o:List Ob)(k:KV):Le (Zp hi v o k) (k v o):=by
 unfold Zp;refine kJ fun _ q=>?_;subst q;refine ao fun _ _ q=>?_;subst q;refine bW fun _ q=>?_;subst q;refine gI fun _ q=>?_;subst q;refine ao fun _ _ q=>?_;subst q;refine bW fun _ q=>?_;subst q;refine dS fun _ q=>?_;subst q;refine bI fun q=>?_;subst q;exact m9 fun q=>by subst q;exact Le.refl _
noncomputable def caT (f:Nat)(hi:List Ob)(v:D)(o:List Ob)(k:KV):R:=bif Nat.beq f 41 then af0 hi v o k else bif Nat.beq f 228 then afZ hi v o k else bif Nat.beq f 269 then afY hi v o k else bif Nat.beq f 53 then afW hi v o k else bif Nat.beq f 92 then afX hi v o k else bif dh f [8,14,15,40,43,45,50,56,71,80,84,93,94,114,121,124,125,126,133,142,143,144,145,156,157,158,164,165,174,175,176,177,178,199,200,201,204,221,225,226,227,229,245,247,248,249,264,292,293]then ca8 hi v o k else bif dh f [9]then ca9 hi v o k else bif dh f [13]then afI hi v o k else bif dh f [18,78]then afJ hi v o k else bif dh f [19,23]then afK hi v o k else bif dh f [46,47,48,85,86,87,89,91,122,123,205,219,220,222,223,224,231,232,267]then afL hi v o k else bif dh f [49,58,59,100,130,131,161,163,179,186,187,197,218,237,246,265]then afM hi v o k else bif dh f [54]then afN hi v o k else bif dh f [57]then afO hi v o k else bif dh f [61]then afP hi v o k else bif dh f [62]then afQ hi v o k else bif dh f [81,90]then afR hi v o k else bif dh f [88]then afS hi v o k else bif dh f [95]then afU hi v o k else bif dh f [127,180,183,184,230,236]then Zb hi v o k else bif dh f [128,181,182,234,235]then Zd hi v o k else bif dh f [129]then Zf hi v o k else bif dh f [132]then Zh hi v o k else bif dh f [134]then Zj hi v o k else bif dh f [185]then Zl hi v o k else bif dh f [233]then Zn hi v o k else bif dh f [268]then Zp hi v o k else k v o
noncomputable def mvT (z:D)(x:Da)(k:Da→R):R:=match z with| .p (.int i _)=>aU i x fun n=>k (.int i n)| .p (.bool _)=>az x fun b=>k (.bool b)| .p (.agg cs)=>bif Nat.beq cs.length 3 then bb x fun t=>k t.e else k x|_=>k x
noncomputable def elI (z:Nat)(x:Da)(k:Da→R):R:=bif Nat.beq z 8 then aS x fun t=>k t.e else bif Nat.beq z 3 then aF x fun t=>k t.e else bif Nat.beq z 4 then aZ x fun t=>k t.e else bif Nat.beq z 7 then cd x fun t=>k t.e else bif Nat.beq z 2 then bL x fun t=>k t.e else bif Nat.beq z 5 then f0 x fun t=>k t.e else bif Nat.beq z 1 then aU .i64 x fun i=>k (.int .i64 i)else bif Nat.beq z 0 then aU .i64 x fun i=>k (.int .i64 i)else k x
noncomputable def elS (z:Nat)(x:Da)(k:Da→R):R:=bif Nat.beq z 8 then aS x fun t=>k t.e else bif Nat.beq z 3 then aF x fun t=>k t.e else bif Nat.beq z 4 then aZ x fun t=>k t.e else bif Nat.beq z 7 then cd x fun t=>k t.e else bif Nat.beq z 2 then bL x fun t=>k t.e else bif Nat.beq z 5 then f0 x fun t=>k t.e else bif Nat.beq z 1 then j1 x fun s=>k (.str s)else bif Nat.beq z 0 then j1 x fun s=>k (.str s)else k x
noncomputable def elG (z:Nat)(x:Da)(k:Da→R):R:=bif Nat.beq z 8 then aS x fun t=>k t.e else bif Nat.beq z 3 then aF x fun t=>k t.e else bif Nat.beq z 4 then aZ x fun t=>k t.e else bif Nat.beq z 7 then cd x fun t=>k t.e else bif Nat.beq z 2 then dT x fun t=>k t.e else bif Nat.beq z 5 then f0 x fun t=>k t.e else bif Nat.beq z 1 then aU .i64 x fun i=>k (.int .i64 i)else bif Nat.beq z 0 then aU .i64 x fun i=>k (.int .i64 i)else k x
noncomputable def elV (z:Nat)(x:Da)(k:Da→R):R:=bif Nat.beq z 8 then aS x fun t=>k t.e else bif Nat.beq z 3 then aF x fun t=>k t.e else bif Nat.beq z 4 then aZ x fun t=>k t.e else bif Nat.beq z 7 then cd x fun t=>k t.e else bif Nat.beq z 2 then fo x fun t=>k t.e else bif Nat.beq z 5 then f0 x fun t=>k t.e else bif Nat.beq z 1 then j1 x fun s=>k (.str s)else bif Nat.beq z 0 then j1 x fun s=>k (.str s)else k x
noncomputable def elM (z:Nat)(x:Da)(k:Da→R):R:=bif Nat.beq z 8 then aS x fun t=>k t.e else bif Nat.beq z 3 then aF x fun t=>k t.e else bif Nat.beq z 4 then aZ x fun t=>k t.e else bif Nat.beq z 7 then cd x fun t=>k t.e else bif Nat.beq z 2 then bL x fun t=>k t.e else bif Nat.beq z 5 then f0 x fun t=>k t.e else bif Nat.beq z 3001 then aF x fun t=>k t.e else bif Nat.beq z 1001 then aZ x fun t=>k t.e else bif Nat.beq z 2001 then aZ x fun t=>k t.e else bif Nat.beq z 1 then aU .i64 x fun i=>k (.int .i64 i)else bif Nat.beq z 0 then aU .i64 x fun i=>k (.int .i64 i)else k x
noncomputable def dcI:oQ:=⟨elI,caT,mvT,false,true,false⟩
noncomputable def ai3:oQ:=⟨elI,caT,mvT,false,false,false⟩
noncomputable def ai2:oQ:=⟨elI,caT,mvT,true,true,false⟩
noncomputable def dcS:oQ:=⟨elS,caT,mvT,false,true,false⟩
noncomputable def ai1:oQ:=⟨elG,caT,mvT,true,true,false⟩
noncomputable def ai5:oQ:=⟨elV,caT,mvT,false,false,false⟩
noncomputable def ai4:oQ:=⟨elM,caT,mvT,false,false,true⟩
theorem RR (z:Nat)(x:Da)(k:Da→R):Le (elI z x k) (k x):=by
 unfold elI;cases Nat.beq z 8<;>simp only[cond_true,cond_false];rotate_left
 ·exact hY fun _ q=>by subst q;exact Le.refl _
 cases Nat.beq z 3<;>simp only[cond_true,cond_false];rotate_left
 ·exact cT fun _ q=>by subst q;exact Le.refl _
 cases Nat.beq z 4<;>simp only[cond_true,cond_false];rotate_left
 ·exact cI fun _ q=>by subst q;exact Le.refl _
 cases Nat.beq z 7<;>simp only[cond_true,cond_false];rotate_left
 ·exact fZ fun _ q=>by subst q;exact Le.refl _
 cases Nat.beq z 2<;>simp only[cond_true,cond_false];rotate_left
 ·exact nb fun _ q=>by subst q;exact Le.refl _
 cases Nat.beq z 5<;>simp only[cond_true,cond_false];rotate_left
 ·exact f9 fun _ q=>by subst q;exact Le.refl _
 cases Nat.beq z 1<;>simp only[cond_true,cond_false];cases Nat.beq z 0<;>simp only[cond_true,cond_false]
 ·exact Le.refl _
 all_goals exact bF fun _ q=>by subst q;exact Le.refl _
theorem agf (z:Nat)(x:Da)(k:Da→R):Le (elS z x k) (k x):=by
 unfold elS;cases Nat.beq z 8<;>simp only[cond_true,cond_false];rotate_left
 ·exact hY fun _ q=>by subst q;exact Le.refl _
 cases Nat.beq z 3<;>simp only[cond_true,cond_false];rotate_left
 ·exact cT fun _ q=>by subst q;exact Le.refl _
 cases Nat.beq z 4<;>simp only[cond_true,cond_false];rotate_left
 ·exact cI fun _ q=>by subst q;exact Le.refl _
 cases Nat.beq z 7<;>simp only[cond_true,cond_false];rotate_left
 ·exact fZ fun _ q=>by subst q;exact Le.refl _
 cases Nat.beq z 2<;>simp only[cond_true,cond_false];rotate_left
 ·exact nb fun _ q=>by subst q;exact Le.refl _
 cases Nat.beq z 5<;>simp only[cond_true,cond_false];rotate_left
 ·exact f9 fun _ q=>by subst q;exact Le.refl _
 cases Nat.beq z 1<;>simp only[cond_true,cond_false];cases Nat.beq z 0<;>simp only[cond_true,cond_false]
 ·exact Le.refl _
 all_goals exact eM fun _ q=>by subst q;exact Le.refl _
theorem agd (z:Nat)(x:Da)(k:Da→R):Le (elG z x k) (k x):=by
 unfold elG;cases Nat.beq z 8<;>simp only[cond_true,cond_false];rotate_left
 ·exact hY fun _ q=>by subst q;exact Le.refl _
 cases Nat.beq z 3<;>simp only[cond_true,cond_false];rotate_left
 ·exact cT fun _ q=>by subst q;exact Le.refl _
 cases Nat.beq z 4<;>simp only[cond_true,cond_false];rotate_left
 ·exact cI fun _ q=>by subst q;exact Le.refl _
 cases Nat.beq z 7<;>simp only[cond_true,cond_false];rotate_left
 ·exact fZ fun _ q=>by subst q;exact Le.refl _
 cases Nat.beq z 2<;>simp only[cond_true,cond_false];rotate_left
 ·exact sK fun _ q=>by subst q;exact Le.refl _
 cases Nat.beq z 5<;>simp only[cond_true,cond_false];rotate_left
 ·exact f9 fun _ q=>by subst q;exact Le.refl _
 cases Nat.beq z 1<;>simp only[cond_true,cond_false];cases Nat.beq z 0<;>simp only[cond_true,cond_false]
 ·exact Le.refl _
 all_goals exact bF fun _ q=>by subst q;exact Le.refl _
theorem agh (z:Nat)(x:Da)(k:Da→R):Le (elV z x k) (k x):=by
 unfold elV;cases Nat.beq z 8<;>simp only[cond_true,cond_false];rotate_left
 ·exact hY fun _ q=>by subst q;exact Le.refl _
 cases Nat.beq z 3<;>simp only[cond_true,cond_false];rotate_left
 ·exact cT fun _ q=>by subst q;exact Le.refl _
 cases Nat.beq z 4<;>simp only[cond_true,cond_false];rotate_left
 ·exact cI fun _ q=>by subst q;exact Le.refl _
 cases Nat.beq z 7<;>simp only[cond_true,cond_false];rotate_left
 ·exact fZ fun _ q=>by subst q;exact Le.refl _
 cases Nat.beq z 2<;>simp only[cond_true,cond_false];rotate_left
 ·exact Al fun _ q=>by subst q;exact Le.refl _
 cases Nat.beq z 5<;>simp only[cond_true,cond_false];rotate_left
 ·exact f9 fun _ q=>by subst q;exact Le.refl _
 cases Nat.beq z 1<;>simp only[cond_true,cond_false];cases Nat.beq z 0<;>simp only[cond_true,cond_false]
 ·exact Le.refl _
 all_goals exact eM fun _ q=>by subst q;exact Le.refl _
theorem age (z:Nat)(x:Da)(k:Da→R):Le (elM z x k) (k x):=by
 unfold elM;cases Nat.beq z 8<;>simp only[cond_true,cond_false];rotate_left
 ·exact hY fun _ q=>by subst q;exact Le.refl _
 cases Nat.beq z 3<;>simp only[cond_true,cond_false];rotate_left
 ·exact cT fun _ q=>by subst q;exact Le.refl _
 cases Nat.beq z 4<;>simp only[cond_true,cond_false];rotate_left
 ·exact cI fun _ q=>by subst q;exact Le.refl _
 cases Nat.beq z 7<;>simp only[cond_true,cond_false];rotate_left
 ·exact fZ fun _ q=>by subst q;exact Le.refl _
 cases Nat.beq z 2<;>simp only[cond_true,cond_false];rotate_left
 ·exact nb fun _ q=>by subst q;exact Le.refl _
 cases Nat.beq z 5<;>simp only[cond_true,cond_false];rotate_left
 ·exact f9 fun _ q=>by subst q;exact Le.refl _
 cases Nat.beq z 3001<;>simp only[cond_true,cond_false];rotate_left
 ·exact cT fun _ q=>by subst q;exact Le.refl _
 cases Nat.beq z 1001<;>simp only[cond_true,cond_false];rotate_left
 ·exact cI fun _ q=>by subst q;exact Le.refl _
 cases Nat.beq z 2001<;>simp only[cond_true,cond_false];rotate_left
 ·exact cI fun _ q=>by subst q;exact Le.refl _
 cases Nat.beq z 1<;>simp only[cond_true,cond_false];cases Nat.beq z 0<;>simp only[cond_true,cond_false]
 ·exact Le.refl _
 all_goals exact bF fun _ q=>by subst q;exact Le.refl _
theorem vX (f:Nat)(hi:List Ob)(v:D)(o:List Ob)(k:KV):Le (caT f hi v o k) (k v o):=by
 unfold caT;cases Nat.beq f 41<;>simp only[cond_true,cond_false];rotate_left
 ·exact acD hi v o k
 cases Nat.beq f 228<;>simp only[cond_true,cond_false];rotate_left
 ·exact acC hi v o k
 cases Nat.beq f 269<;>simp only[cond_true,cond_false];rotate_left
 ·exact acB hi v o k
 cases Nat.beq f 53<;>simp only[cond_true,cond_false];rotate_left
 ·exact acz hi v o k
 cases Nat.beq f 92<;>simp only[cond_true,cond_false];rotate_left
 ·exact acA hi v o k
 cases dh f _<;>simp only[cond_true,cond_false];rotate_left
 ·exact afT hi v o k
 cases dh f _<;>simp only[cond_true,cond_false];rotate_left
 ·exact afV hi v o k
 cases dh f _<;>simp only[cond_true,cond_false];rotate_left
 ·exact acm hi v o k
 cases dh f _<;>simp only[cond_true,cond_false];rotate_left
 ·exact acn hi v o k
 cases dh f _<;>simp only[cond_true,cond_false];rotate_left
 ·exact aco hi v o k
 cases dh f _<;>simp only[cond_true,cond_false];rotate_left
 ·exact acp hi v o k
 cases dh f _<;>simp only[cond_true,cond_false];rotate_left
 ·exact acq hi v o k
 cases dh f _<;>simp only[cond_true,cond_false];rotate_left
 ·exact acr hi v o k
 cases dh f _<;>simp only[cond_true,cond_false];rotate_left
 ·exact acs hi v o k
 cases dh f _<;>simp only[cond_true,cond_false];rotate_left
 ·exact acu hi v o k
 cases dh f _<;>simp only[cond_true,cond_false];rotate_left
 ·exact acv hi v o k
 cases dh f _<;>simp only[cond_true,cond_false];rotate_left
 ·exact acw hi v o k
 cases dh f _<;>simp only[cond_true,cond_false];rotate_left
 ·exact acx hi v o k
 cases dh f _<;>simp only[cond_true,cond_false];rotate_left
 ·exact acy hi v o k
 cases dh f _<;>simp only[cond_true,cond_false];rotate_left
 ·exact Zc hi v o k
 cases dh f _<;>simp only[cond_true,cond_false];rotate_left
 ·exact Ze hi v o k
 cases dh f _<;>simp only[cond_true,cond_false];rotate_left
 ·exact Zg hi v o k
 cases dh f _<;>simp only[cond_true,cond_false];rotate_left
 ·exact Zi hi v o k
 cases dh f _<;>simp only[cond_true,cond_false];rotate_left
 ·exact Zk hi v o k
 cases dh f _<;>simp only[cond_true,cond_false];rotate_left
 ·exact Zm hi v o k
 cases dh f _<;>simp only[cond_true,cond_false];rotate_left
 ·exact Zo hi v o k
 cases dh f _<;>simp only[cond_true,cond_false];rotate_left
 ·exact Zq hi v o k
 exact Le.refl _
theorem wv (z:D)(x:Da)(k:Da→R):Le (mvT z x k) (k x):=by
 unfold mvT;split
 ·exact bF fun _ q=>by subst q;exact Le.refl _
 ·exact dS fun _ q=>by subst q;exact Le.refl _
 ·skip
  cases Nat.beq _ 3<;>simp only[cond_true,cond_false];rotate_left
  ·exact gI fun _ q=>by subst q;exact Le.refl _
  exact Le.refl _
 ·exact Le.refl _
theorem aj:(dcI).Ok:=⟨RR,vX,wv⟩
theorem TE:(ai2).Ok:=⟨RR,vX,wv⟩
theorem eN:(ai3).Ok:=⟨RR,vX,wv⟩
theorem eO:(dcS).Ok:=⟨agf,vX,wv⟩
theorem Kh:(ai1).Ok:=⟨agd,vX,wv⟩
theorem acL:(ai5).Ok:=⟨agh,vX,wv⟩
theorem acK:(ai4).Ok:=⟨age,vX,wv⟩
noncomputable def et (f:Nat):Fx:=(mq prog0 globs0 j3 f).getD ⟨.skip,[],false⟩
theorem cu (lp:af→cF)(F:af→R){f n m:Nat}{dc:oQ}{args:List D}{hp:List Ob}(hd:dc.Ok)(hx:lay0.tab f=some (.code (et f)))(hm:fA f args hp.length=m)(hl:∀{cc:af} {call:aL},bB cc call→∀e∈dj (et f).body 1,bp (lp cc) call n m e)(h:∀cc,ad2 m (lp cc) dc cc n (et f) args hp=F cc):Le (F (br lay0.tab n)) (evFn lay0.tab (n+1) f args hp):=
 ah7 hd hx hm (hl (aad _ _)) (h _)
end Go.Ab
