/- A part of the proof. -/
import Derived.Test.YtlfhmmbmjkadiaaGreatDoorAl
import Derived.Test.YtlfhmmbmjkadiaaGreatDoorAwZ
import Derived.KernelRfl
set_option linter.all false
namespace Go.Ab
open Go
set_option maxRecDepth 100000
instance mvG : Mv := ⟨fun f => hasN f [127,128,180,183,236]⟩
noncomputable def dSame (hi o : List Ob) (k : R) : R := @ite _ (o = hi) (Classical.propDecidable _) k none
theorem dSame_le {hi o : List Ob} {k Z : R} (h : o = hi → Le k Z) : Le (dSame hi o k) Z := by
 unfold dSame
 split
 ·rename_i e; exact h e
 ·exact Le.no _
noncomputable def dSameD (c d : D) (k : R) : R := @ite _ (d = c) (Classical.propDecidable _) k none
theorem dSameD_le {c d : D} {k Z : R} (h : d = c → Le k Z) : Le (dSameD c d k) Z := by
 unfold dSameD
 split
 ·rename_i e; exact h e
 ·exact Le.no _
theorem dSameD_k (c : D) (k : R) : dSameD c c k = k := by
 unfold dSameD; exact if_pos rfl
theorem dSame_k (hi : List Ob) (k : R) : dSame hi hi k = k := by
 unfold dSame; exact if_pos rfl
structure api_Program where
 Types : List Da
def api_Program.e (t : api_Program) : Da := .agg [.slice 3 t.Types]
def api_Program.b (t : api_Program) : Ob := .box [.p (.slice 3 t.Types)]
structure api_ActorType where
 Name : List Nat
 Fields : List Da
 Methods : List Da
def api_ActorType.e (t : api_ActorType) : Da := .agg [.str t.Name, .slice 7 t.Fields, .slice 4 t.Methods]
def api_ActorType.b (t : api_ActorType) : Ob := .box [.p (.str t.Name), .p (.slice 7 t.Fields), .p (.slice 4 t.Methods)]
noncomputable def d_api_ActorType (x : Da) (k : api_ActorType → R) : R := dAgg x fun r0 => dCons r0 fun c0 r1 => dStr c0 fun v0 => dCons r1 fun c1 r2 => dSl 7 c1 fun v1 => dCons r2 fun c2 r3 => dSl 4 c2 fun v2 => dNil r3 <| k ⟨v0, v1, v2⟩
theorem d_api_ActorType_le {x : Da} {k : api_ActorType → R} {Z : R} (h : ∀ t : api_ActorType, x = t.e → Le (k t) Z) : Le (d_api_ActorType x k) Z := by
 unfold d_api_ActorType
 refine dAgg_le fun _ q => ?_; subst q; refine dCons_le fun _ _ q => ?_; subst q; refine dStr_le fun _ q => ?_; subst q; refine dCons_le fun _ _ q => ?_; subst q; refine dSl_le fun _ q => ?_; subst q; refine dCons_le fun _ _ q => ?_; subst q; refine dSl_le fun _ q => ?_; subst q; refine dNil_le fun q => ?_; subst q; exact h ⟨_, _, _⟩ rfl
structure api_Place where
 Type_ : Int
 Method : Int
 Node : Int
def api_Place.e (t : api_Place) : Da := .agg [.int .i64 t.Type_, .int .i64 t.Method, .int .i64 t.Node]
def api_Place.b (t : api_Place) : Ob := .box [.p (.int .i64 t.Type_), .p (.int .i64 t.Method), .p (.int .i64 t.Node)]
noncomputable def d_api_Place (x : Da) (k : api_Place → R) : R := dAgg x fun r0 => dCons r0 fun c0 r1 => dInt .i64 c0 fun v0 => dCons r1 fun c1 r2 => dInt .i64 c1 fun v1 => dCons r2 fun c2 r3 => dInt .i64 c2 fun v2 => dNil r3 <| k ⟨v0, v1, v2⟩
theorem d_api_Place_le {x : Da} {k : api_Place → R} {Z : R} (h : ∀ t : api_Place, x = t.e → Le (k t) Z) : Le (d_api_Place x k) Z := by
 unfold d_api_Place
 refine dAgg_le fun _ q => ?_; subst q; refine dCons_le fun _ _ q => ?_; subst q; refine dInt_le fun _ q => ?_; subst q; refine dCons_le fun _ _ q => ?_; subst q; refine dInt_le fun _ q => ?_; subst q; refine dCons_le fun _ _ q => ?_; subst q; refine dInt_le fun _ q => ?_; subst q; refine dNil_le fun q => ?_; subst q; exact h ⟨_, _, _⟩ rfl
structure api_Signature where
 Params : List Da
 Result : Int
def api_Signature.e (t : api_Signature) : Da := .agg [.slice 1 t.Params, .int .i64 t.Result]
def api_Signature.b (t : api_Signature) : Ob := .box [.p (.slice 1 t.Params), .p (.int .i64 t.Result)]
noncomputable def d_api_Signature (x : Da) (k : api_Signature → R) : R := dAgg x fun r0 => dCons r0 fun c0 r1 => dSl 1 c0 fun v0 => dCons r1 fun c1 r2 => dInt .i64 c1 fun v1 => dNil r2 <| k ⟨v0, v1⟩
theorem d_api_Signature_le {x : Da} {k : api_Signature → R} {Z : R} (h : ∀ t : api_Signature, x = t.e → Le (k t) Z) : Le (d_api_Signature x k) Z := by
 unfold d_api_Signature
 refine dAgg_le fun _ q => ?_; subst q; refine dCons_le fun _ _ q => ?_; subst q; refine dSl_le fun _ q => ?_; subst q; refine dCons_le fun _ _ q => ?_; subst q; refine dInt_le fun _ q => ?_; subst q; refine dNil_le fun q => ?_; subst q; exact h ⟨_, _⟩ rfl
structure api_Value where
 Kind : Int
 N : Int
 S : List Nat
 I : List Da
 L : List Da
def api_Value.e (t : api_Value) : Da := .agg [.int .i64 t.Kind, .int .i64 t.N, .str t.S, .slice 1 t.I, .slice 1 t.L]
def api_Value.b (t : api_Value) : Ob := .box [.p (.int .i64 t.Kind), .p (.int .i64 t.N), .p (.str t.S), .p (.slice 1 t.I), .p (.slice 1 t.L)]
noncomputable def d_api_Value (x : Da) (k : api_Value → R) : R := dAgg x fun r0 => dCons r0 fun c0 r1 => dInt .i64 c0 fun v0 => dCons r1 fun c1 r2 => dInt .i64 c1 fun v1 => dCons r2 fun c2 r3 => dStr c2 fun v2 => dCons r3 fun c3 r4 => dSl 1 c3 fun v3 => dCons r4 fun c4 r5 => dSl 1 c4 fun v4 => dNil r5 <| k ⟨v0, v1, v2, v3, v4⟩
theorem d_api_Value_le {x : Da} {k : api_Value → R} {Z : R} (h : ∀ t : api_Value, x = t.e → Le (k t) Z) : Le (d_api_Value x k) Z := by
 unfold d_api_Value
 refine dAgg_le fun _ q => ?_; subst q; refine dCons_le fun _ _ q => ?_; subst q; refine dInt_le fun _ q => ?_; subst q; refine dCons_le fun _ _ q => ?_; subst q; refine dInt_le fun _ q => ?_; subst q; refine dCons_le fun _ _ q => ?_; subst q; refine dStr_le fun _ q => ?_; subst q; refine dCons_le fun _ _ q => ?_; subst q; refine dSl_le fun _ q => ?_; subst q; refine dCons_le fun _ _ q => ?_; subst q; refine dSl_le fun _ q => ?_; subst q; refine dNil_le fun q => ?_; subst q; exact h ⟨_, _, _, _, _⟩ rfl
structure api_Node where
 Op : Int
 Name : List Nat
 Value_Kind : Int
 Value_N : Int
 Value_S : List Nat
 Value_I : List Da
 Value_L : List Da
 Kids : List Da
def api_Node.e (t : api_Node) : Da := .agg [.int .i64 t.Op, .str t.Name, .int .i64 t.Value_Kind, .int .i64 t.Value_N, .str t.Value_S, .slice 1 t.Value_I, .slice 1 t.Value_L, .slice 1 t.Kids]
def api_Node.b (t : api_Node) : Ob := .box [.p (.int .i64 t.Op), .p (.str t.Name), .p (.int .i64 t.Value_Kind), .p (.int .i64 t.Value_N), .p (.str t.Value_S), .p (.slice 1 t.Value_I), .p (.slice 1 t.Value_L), .p (.slice 1 t.Kids)]
noncomputable def d_api_Node (x : Da) (k : api_Node → R) : R := dAgg x fun r0 => dCons r0 fun c0 r1 => dInt .i64 c0 fun v0 => dCons r1 fun c1 r2 => dStr c1 fun v1 => dCons r2 fun c2 r3 => dInt .i64 c2 fun v2 => dCons r3 fun c3 r4 => dInt .i64 c3 fun v3 => dCons r4 fun c4 r5 => dStr c4 fun v4 => dCons r5 fun c5 r6 => dSl 1 c5 fun v5 => dCons r6 fun c6 r7 => dSl 1 c6 fun v6 => dCons r7 fun c7 r8 => dSl 1 c7 fun v7 => dNil r8 <| k ⟨v0, v1, v2, v3, v4, v5, v6, v7⟩
theorem d_api_Node_le {x : Da} {k : api_Node → R} {Z : R} (h : ∀ t : api_Node, x = t.e → Le (k t) Z) : Le (d_api_Node x k) Z := by
 unfold d_api_Node
 refine dAgg_le fun _ q => ?_; subst q; refine dCons_le fun _ _ q => ?_; subst q; refine dInt_le fun _ q => ?_; subst q; refine dCons_le fun _ _ q => ?_; subst q; refine dStr_le fun _ q => ?_; subst q; refine dCons_le fun _ _ q => ?_; subst q; refine dInt_le fun _ q => ?_; subst q; refine dCons_le fun _ _ q => ?_; subst q; refine dInt_le fun _ q => ?_; subst q; refine dCons_le fun _ _ q => ?_; subst q; refine dStr_le fun _ q => ?_; subst q; refine dCons_le fun _ _ q => ?_; subst q; refine dSl_le fun _ q => ?_; subst q; refine dCons_le fun _ _ q => ?_; subst q; refine dSl_le fun _ q => ?_; subst q; refine dCons_le fun _ _ q => ?_; subst q; refine dSl_le fun _ q => ?_; subst q; refine dNil_le fun q => ?_; subst q; exact h ⟨_, _, _, _, _, _, _, _⟩ rfl
structure api_Method where
 Name : List Nat
 Params : List Da
 Result : Int
 Nodes : List Da
def api_Method.e (t : api_Method) : Da := .agg [.str t.Name, .slice 2 t.Params, .int .i64 t.Result, .slice 8 t.Nodes]
def api_Method.b (t : api_Method) : Ob := .box [.p (.str t.Name), .p (.slice 2 t.Params), .p (.int .i64 t.Result), .p (.slice 8 t.Nodes)]
noncomputable def d_api_Method (x : Da) (k : api_Method → R) : R := dAgg x fun r0 => dCons r0 fun c0 r1 => dStr c0 fun v0 => dCons r1 fun c1 r2 => dSl 2 c1 fun v1 => dCons r2 fun c2 r3 => dInt .i64 c2 fun v2 => dCons r3 fun c3 r4 => dSl 8 c3 fun v3 => dNil r4 <| k ⟨v0, v1, v2, v3⟩
theorem d_api_Method_le {x : Da} {k : api_Method → R} {Z : R} (h : ∀ t : api_Method, x = t.e → Le (k t) Z) : Le (d_api_Method x k) Z := by
 unfold d_api_Method
 refine dAgg_le fun _ q => ?_; subst q; refine dCons_le fun _ _ q => ?_; subst q; refine dStr_le fun _ q => ?_; subst q; refine dCons_le fun _ _ q => ?_; subst q; refine dSl_le fun _ q => ?_; subst q; refine dCons_le fun _ _ q => ?_; subst q; refine dInt_le fun _ q => ?_; subst q; refine dCons_le fun _ _ q => ?_; subst q; refine dSl_le fun _ q => ?_; subst q; refine dNil_le fun q => ?_; subst q; exact h ⟨_, _, _, _⟩ rfl
structure api_Field where
 Name : List Nat
 Kind : Int
 Init_Kind : Int
 Init_N : Int
 Init_S : List Nat
 Init_I : List Da
 Init_L : List Da
def api_Field.e (t : api_Field) : Da := .agg [.str t.Name, .int .i64 t.Kind, .int .i64 t.Init_Kind, .int .i64 t.Init_N, .str t.Init_S, .slice 1 t.Init_I, .slice 1 t.Init_L]
def api_Field.b (t : api_Field) : Ob := .box [.p (.str t.Name), .p (.int .i64 t.Kind), .p (.int .i64 t.Init_Kind), .p (.int .i64 t.Init_N), .p (.str t.Init_S), .p (.slice 1 t.Init_I), .p (.slice 1 t.Init_L)]
noncomputable def d_api_Field (x : Da) (k : api_Field → R) : R := dAgg x fun r0 => dCons r0 fun c0 r1 => dStr c0 fun v0 => dCons r1 fun c1 r2 => dInt .i64 c1 fun v1 => dCons r2 fun c2 r3 => dInt .i64 c2 fun v2 => dCons r3 fun c3 r4 => dInt .i64 c3 fun v3 => dCons r4 fun c4 r5 => dStr c4 fun v4 => dCons r5 fun c5 r6 => dSl 1 c5 fun v5 => dCons r6 fun c6 r7 => dSl 1 c6 fun v6 => dNil r7 <| k ⟨v0, v1, v2, v3, v4, v5, v6⟩
theorem d_api_Field_le {x : Da} {k : api_Field → R} {Z : R} (h : ∀ t : api_Field, x = t.e → Le (k t) Z) : Le (d_api_Field x k) Z := by
 unfold d_api_Field
 refine dAgg_le fun _ q => ?_; subst q; refine dCons_le fun _ _ q => ?_; subst q; refine dStr_le fun _ q => ?_; subst q; refine dCons_le fun _ _ q => ?_; subst q; refine dInt_le fun _ q => ?_; subst q; refine dCons_le fun _ _ q => ?_; subst q; refine dInt_le fun _ q => ?_; subst q; refine dCons_le fun _ _ q => ?_; subst q; refine dInt_le fun _ q => ?_; subst q; refine dCons_le fun _ _ q => ?_; subst q; refine dStr_le fun _ q => ?_; subst q; refine dCons_le fun _ _ q => ?_; subst q; refine dSl_le fun _ q => ?_; subst q; refine dCons_le fun _ _ q => ?_; subst q; refine dSl_le fun _ q => ?_; subst q; refine dNil_le fun q => ?_; subst q; exact h ⟨_, _, _, _, _, _, _⟩ rfl
structure api_Param where
 Name : List Nat
 Kind : Int
def api_Param.e (t : api_Param) : Da := .agg [.str t.Name, .int .i64 t.Kind]
def api_Param.b (t : api_Param) : Ob := .box [.p (.str t.Name), .p (.int .i64 t.Kind)]
noncomputable def d_api_Param (x : Da) (k : api_Param → R) : R := dAgg x fun r0 => dCons r0 fun c0 r1 => dStr c0 fun v0 => dCons r1 fun c1 r2 => dInt .i64 c1 fun v1 => dNil r2 <| k ⟨v0, v1⟩
theorem d_api_Param_le {x : Da} {k : api_Param → R} {Z : R} (h : ∀ t : api_Param, x = t.e → Le (k t) Z) : Le (d_api_Param x k) Z := by
 unfold d_api_Param
 refine dAgg_le fun _ q => ?_; subst q; refine dCons_le fun _ _ q => ?_; subst q; refine dStr_le fun _ q => ?_; subst q; refine dCons_le fun _ _ q => ?_; subst q; refine dInt_le fun _ q => ?_; subst q; refine dNil_le fun q => ?_; subst q; exact h ⟨_, _⟩ rfl
structure types_variable where
 kind : Int
 slot : Int
 field : Bool
def types_variable.e (t : types_variable) : Da := .agg [.int .i64 t.kind, .int .i64 t.slot, .bool t.field]
def types_variable.b (t : types_variable) : Ob := .box [.p (.int .i64 t.kind), .p (.int .i64 t.slot), .p (.bool t.field)]
noncomputable def d_types_variable (x : Da) (k : types_variable → R) : R := dAgg x fun r0 => dCons r0 fun c0 r1 => dInt .i64 c0 fun v0 => dCons r1 fun c1 r2 => dInt .i64 c1 fun v1 => dCons r2 fun c2 r3 => dBool c2 fun v2 => dNil r3 <| k ⟨v0, v1, v2⟩
theorem d_types_variable_le {x : Da} {k : types_variable → R} {Z : R} (h : ∀ t : types_variable, x = t.e → Le (k t) Z) : Le (d_types_variable x k) Z := by
 unfold d_types_variable
 refine dAgg_le fun _ q => ?_; subst q; refine dCons_le fun _ _ q => ?_; subst q; refine dInt_le fun _ q => ?_; subst q; refine dCons_le fun _ _ q => ?_; subst q; refine dInt_le fun _ q => ?_; subst q; refine dCons_le fun _ _ q => ?_; subst q; refine dBool_le fun _ q => ?_; subst q; refine dNil_le fun q => ?_; subst q; exact h ⟨_, _, _⟩ rfl
structure types_body where
 locals : List Da
 kinds : Da
 variables : Da
def types_body.e (t : types_body) : Da := .agg [.slice 2 t.locals, t.kinds, t.variables]
def types_body.b (t : types_body) : Ob := .box [.p (.slice 2 t.locals), .p (t.kinds), .p (t.variables)]
noncomputable def d_types_body (x : Da) (k : types_body → R) : R := dAgg x fun r0 => dCons r0 fun c0 r1 => dSl 2 c0 fun v0 => dCons r1 fun c1 r2 => dCons r2 fun c2 r3 => dNil r3 <| k ⟨v0, c1, c2⟩
theorem d_types_body_le {x : Da} {k : types_body → R} {Z : R} (h : ∀ t : types_body, x = t.e → Le (k t) Z) : Le (d_types_body x k) Z := by
 unfold d_types_body
 refine dAgg_le fun _ q => ?_; subst q; refine dCons_le fun _ _ q => ?_; subst q; refine dSl_le fun _ q => ?_; subst q; refine dCons_le fun _ _ q => ?_; subst q; refine dCons_le fun _ _ q => ?_; subst q; refine dNil_le fun q => ?_; subst q; exact h ⟨_, _, _⟩ rfl
structure types_signature where
 params : List Da
 result : Int
def types_signature.e (t : types_signature) : Da := .agg [.slice 1 t.params, .int .i64 t.result]
def types_signature.b (t : types_signature) : Ob := .box [.p (.slice 1 t.params), .p (.int .i64 t.result)]
noncomputable def d_types_signature (x : Da) (k : types_signature → R) : R := dAgg x fun r0 => dCons r0 fun c0 r1 => dSl 1 c0 fun v0 => dCons r1 fun c1 r2 => dInt .i64 c1 fun v1 => dNil r2 <| k ⟨v0, v1⟩
theorem d_types_signature_le {x : Da} {k : types_signature → R} {Z : R} (h : ∀ t : types_signature, x = t.e → Le (k t) Z) : Le (d_types_signature x k) Z := by
 unfold d_types_signature
 refine dAgg_le fun _ q => ?_; subst q; refine dCons_le fun _ _ q => ?_; subst q; refine dSl_le fun _ q => ?_; subst q; refine dCons_le fun _ _ q => ?_; subst q; refine dInt_le fun _ q => ?_; subst q; refine dNil_le fun q => ?_; subst q; exact h ⟨_, _⟩ rfl
structure Ckr where
 pr : List Da
 fk : List Da
 fv : List Da
 ns : List Da
 re : Int
 ln : Nat
 nd : Int
 er : Int
 sk : List Da
 sv : List Da
 lk : List Da
 lv : List Da
 lo : List Da
 kk : List Da
 kv : List Da
 vk : List Da
 vv : List Da
def Ckr.hp (c : Ckr) : List Ob := [.box [.p (.slice 3 c.pr), .p (.map c.fk c.fv), .map 1, .map 2, .p (.slice 8 c.ns), .p (.int .i64 c.re), .arr 3 0 c.ln 2, .map 4, .map 5, .p (.int .i64 c.nd), .p (.int .i64 c.er)], .map c.sk c.sv, .map c.lk c.lv, .arr c.lo, .map c.kk c.kv, .map c.vk c.vv]
noncomputable def d_Ckr (o : List Ob) (k : Ckr → R) : R := dCons o fun a1 r2 => oBox a1 fun l3 => dCons l3 fun d4 l5 => dP d4 fun x6 => dSl 3 x6 fun pr => dCons l5 fun d7 l8 => dP d7 fun x9 => dMap x9 fun fk fv => dCons l8 fun d10 l11 => dMp 1 d10 <| dCons l11 fun d12 l13 => dMp 2 d12 <| dCons l13 fun d14 l15 => dP d14 fun x16 => dSl 8 x16 fun ns => dCons l15 fun d17 l18 => dP d17 fun x19 => dInt .i64 x19 fun re => dCons l18 fun d20 l21 => dArr 3 2 d20 fun ln => dCons l21 fun d22 l23 => dMp 4 d22 <| dCons l23 fun d24 l25 => dMp 5 d24 <| dCons l25 fun d26 l27 => dP d26 fun x28 => dInt .i64 x28 fun nd => dCons l27 fun d29 l30 => dP d29 fun x31 => dInt .i64 x31 fun er => dNil l30 <| dCons r2 fun a32 r33 => oMap a32 fun sk sv => dCons r33 fun a34 r35 => oMap a34 fun lk lv => dCons r35 fun a36 r37 => oArr a36 fun lo => dCons r37 fun a38 r39 => oMap a38 fun kk kv => dCons r39 fun a40 r41 => oMap a40 fun vk vv => dNil r41 <| k ⟨pr, fk, fv, ns, re, ln, nd, er, sk, sv, lk, lv, lo, kk, kv, vk, vv⟩
theorem d_Ckr_le {o : List Ob} {k : Ckr → R} {Z : R} (h : ∀ c : Ckr, o = c.hp → Le (k c) Z) : Le (d_Ckr o k) Z := by
 unfold d_Ckr
 refine dCons_le fun _ _ q => ?_; subst q; refine oBox_le fun _ q => ?_; subst q; refine dCons_le fun _ _ q => ?_; subst q; refine dP_le fun _ q => ?_; subst q; refine dSl_le fun _ q => ?_; subst q; refine dCons_le fun _ _ q => ?_; subst q; refine dP_le fun _ q => ?_; subst q; refine dMap_le fun _ _ q => ?_; subst q; refine dCons_le fun _ _ q => ?_; subst q; refine dMp_le fun q => ?_; subst q; refine dCons_le fun _ _ q => ?_; subst q; refine dMp_le fun q => ?_; subst q; refine dCons_le fun _ _ q => ?_; subst q; refine dP_le fun _ q => ?_; subst q; refine dSl_le fun _ q => ?_; subst q; refine dCons_le fun _ _ q => ?_; subst q; refine dP_le fun _ q => ?_; subst q; refine dInt_le fun _ q => ?_; subst q; refine dCons_le fun _ _ q => ?_; subst q; refine dArr_le fun _ q => ?_; subst q; refine dCons_le fun _ _ q => ?_; subst q; refine dMp_le fun q => ?_; subst q; refine dCons_le fun _ _ q => ?_; subst q; refine dMp_le fun q => ?_; subst q; refine dCons_le fun _ _ q => ?_; subst q; refine dP_le fun _ q => ?_; subst q; refine dInt_le fun _ q => ?_; subst q; refine dCons_le fun _ _ q => ?_; subst q; refine dP_le fun _ q => ?_; subst q; refine dInt_le fun _ q => ?_; subst q; refine dNil_le fun q => ?_; subst q; refine dCons_le fun _ _ q => ?_; subst q; refine oMap_le fun _ _ q => ?_; subst q; refine dCons_le fun _ _ q => ?_; subst q; refine oMap_le fun _ _ q => ?_; subst q; refine dCons_le fun _ _ q => ?_; subst q; refine oArr_le fun _ q => ?_; subst q; refine dCons_le fun _ _ q => ?_; subst q; refine oMap_le fun _ _ q => ?_; subst q; refine dCons_le fun _ _ q => ?_; subst q; refine oMap_le fun _ _ q => ?_; subst q; refine dNil_le fun q => ?_; subst q; exact h ⟨_, _, _, _, _, _, _, _, _, _, _, _, _, _, _, _, _⟩ rfl
noncomputable def r_Ckr : Rd (List Ob) Ckr := ⟨Ckr.hp, d_Ckr, fun _ _ _ H => d_Ckr_le fun t q => by subst q; exact H t⟩
structure Inf where
 ty : List Da
 bn : Nat
 bs : List Da
def Inf.hp (c : Inf) : List Ob := [.box [.p (.slice 3 c.ty), .arr 1 0 c.bn 1], .arr c.bs]
noncomputable def d_Inf (o : List Ob) (k : Inf → R) : R := dCons o fun a1 r2 => oBox a1 fun l3 => dCons l3 fun d4 l5 => dP d4 fun x6 => dSl 3 x6 fun ty => dCons l5 fun d7 l8 => dArr 1 1 d7 fun bn => dNil l8 <| dCons r2 fun a9 r10 => oArr a9 fun bs => dNil r10 <| k ⟨ty, bn, bs⟩
theorem d_Inf_le {o : List Ob} {k : Inf → R} {Z : R} (h : ∀ c : Inf, o = c.hp → Le (k c) Z) : Le (d_Inf o k) Z := by
 unfold d_Inf
 refine dCons_le fun _ _ q => ?_; subst q; refine oBox_le fun _ q => ?_; subst q; refine dCons_le fun _ _ q => ?_; subst q; refine dP_le fun _ q => ?_; subst q; refine dSl_le fun _ q => ?_; subst q; refine dCons_le fun _ _ q => ?_; subst q; refine dArr_le fun _ q => ?_; subst q; refine dNil_le fun q => ?_; subst q; refine dCons_le fun _ _ q => ?_; subst q; refine oArr_le fun _ q => ?_; subst q; refine dNil_le fun q => ?_; subst q; exact h ⟨_, _, _⟩ rfl
noncomputable def caCl (hi : List Ob) (v : D) (o : List Ob) (k : KV) : R := dMp 1 v <| dSame (hi ++ hi) o <| k (.map 1) (hi ++ hi)
theorem caCl_le (hi : List Ob) (v : D) (o : List Ob) (k : KV) : Le (caCl hi v o k) (k v o) := by
 unfold caCl; refine dMp_le fun q => ?_; subst q; exact dSame_le fun q => by subst q; exact Le.refl _
noncomputable def bltD : D := (.p (.map [.str [108, 101, 110], .str [97, 116], .str [97, 112, 112, 101, 110, 100], .str [115, 101, 116], .str [115, 116, 114]] [.slice 2 [.agg [.slice 1 [.int .i64 3], .int .i64 1], .agg [.slice 1 [.int .i64 4], .int .i64 1], .agg [.slice 1 [.int .i64 5], .int .i64 1]], .slice 2 [.agg [.slice 1 [.int .i64 4, .int .i64 1], .int .i64 1], .agg [.slice 1 [.int .i64 5, .int .i64 1], .int .i64 3]], .slice 2 [.agg [.slice 1 [.int .i64 4, .int .i64 1], .int .i64 4], .agg [.slice 1 [.int .i64 5, .int .i64 3], .int .i64 5]], .slice 2 [.agg [.slice 1 [.int .i64 4, .int .i64 1, .int .i64 1], .int .i64 4], .agg [.slice 1 [.int .i64 5, .int .i64 1, .int .i64 3], .int .i64 5]], .slice 2 [.agg [.slice 1 [.int .i64 1], .int .i64 3]]]))
noncomputable def caBu (hi : List Ob) (v : D) (o : List Ob) (k : KV) : R := dSameD bltD v <| dSame [] o <| k bltD []
theorem caBu_le (hi : List Ob) (v : D) (o : List Ob) (k : KV) : Le (caBu hi v o k) (k v o) := by
 unfold caBu; refine dSameD_le fun q => ?_; subst q; exact dSame_le fun q => by subst q; exact Le.refl _
def isBoxD : D → Bool | .box _ _ => true | _ => false
noncomputable def caAn (hi : List Ob) (v : D) (o : List Ob) (k : KV) : R := dTup v fun r0 => dCons r0 fun d0 r1 => dCons r1 fun d1 r2 => dP d1 fun x1 => d_api_Place x1 fun a1 => dCons r2 fun d2 r3 => dP d2 fun x2 => dInt .i64 x2 fun a2 => dNil r3 <| iL (isBoxD d0) (dBox 0 0 d0 <| d_Inf o fun c => k (.tup [.box 0 0, .p a1.e, .p (.int .i64 a2)]) c.hp) (dP d0 fun x0 => dNp x0 <| dNil o <| k (.tup [.p .nilptr, .p a1.e, .p (.int .i64 a2)]) [])
theorem caAn_le (hi : List Ob) (v : D) (o : List Ob) (k : KV) : Le (caAn hi v o k) (k v o) := by
 unfold caAn
 refine dTup_le fun _ q => ?_; subst q; refine dCons_le fun d0 _ q => ?_; subst q; refine dCons_le fun _ _ q => ?_; subst q; refine dP_le fun _ q => ?_; subst q; refine d_api_Place_le fun _ q => ?_; subst q; refine dCons_le fun _ _ q => ?_; subst q; refine dP_le fun _ q => ?_; subst q; refine dInt_le fun _ q => ?_; subst q; refine dNil_le fun q => ?_; subst q
 refine Le.two (fun _ => ?_) (fun _ => ?_)
 ·refine dBox_le fun q => ?_; subst q; exact d_Inf_le fun c q => by subst q; exact Le.refl _
 ·refine dP_le fun _ q => ?_; subst q; refine dNp_le fun q => ?_; subst q; refine dNil_le fun q => ?_; subst q; exact Le.refl _
def isNm : Da → Bool | .nilmap => true | _ => false
noncomputable def caBo (hi : List Ob) (v : D) (o : List Ob) (k : KV) : R := dTup v fun r0 => dCons r0 fun d0 r1 => dCons r1 fun d1 r2 => dP d0 fun x0 => dAgg x0 fun l0 => dCons l0 fun y0 l1 => dSl 2 y0 fun lo => dCons l1 fun y1 l2 => dCons l2 fun y2 l3 => dNil l3 <| dP d1 fun x1 => dBool x1 fun b => dNil r2 <| dSame hi o <| iL (isNm y1) (dNm y1 <| dNm y2 <| k (.tup [.p (.agg [.slice 2 lo, .nilmap, .nilmap]), .p (.bool b)]) hi) (dMap y1 fun kk kv => dMap y2 fun vk vv => k (.tup [.p (.agg [.slice 2 lo, .map kk kv, .map vk vv]), .p (.bool b)]) hi)
theorem caBo_le (hi : List Ob) (v : D) (o : List Ob) (k : KV) : Le (caBo hi v o k) (k v o) := by
 unfold caBo
 refine dTup_le fun _ q => ?_; subst q; refine dCons_le fun _ _ q => ?_; subst q; refine dCons_le fun _ _ q => ?_; subst q; refine dP_le fun _ q => ?_; subst q; refine dAgg_le fun _ q => ?_; subst q; refine dCons_le fun _ _ q => ?_; subst q; refine dSl_le fun _ q => ?_; subst q; refine dCons_le fun _ _ q => ?_; subst q; refine dCons_le fun _ _ q => ?_; subst q; refine dNil_le fun q => ?_; subst q; refine dP_le fun _ q => ?_; subst q; refine dBool_le fun _ q => ?_; subst q; refine dNil_le fun q => ?_; subst q; refine dSame_le fun q => ?_; subst q
 refine Le.two (fun _ => ?_) (fun _ => ?_)
 ·refine dNm_le fun q => ?_; subst q; refine dNm_le fun q => ?_; subst q; exact Le.refl _
 ·refine dMap_le fun _ _ q => ?_; subst q; refine dMap_le fun _ _ q => ?_; subst q; exact Le.refl _
noncomputable def ca16 (hi : List Ob) (v : D) (o : List Ob) (k : KV) : R := dP v fun x0 => dBool x0 fun a0 => likeHp hi o fun o => k (.p (.bool a0)) o
theorem ca16_le (hi : List Ob) (v : D) (o : List Ob) (k : KV) : Le (ca16 hi v o k) (k v o) := by
 unfold ca16; refine dP_le fun _ q => ?_; subst q; refine dBool_le fun _ q => ?_; subst q; exact likeHp_le hi o (Le.refl _)
noncomputable def ca18 (hi : List Ob) (v : D) (o : List Ob) (k : KV) : R := dTup v fun r0 => dCons r0 fun d0 r1 => dP d0 fun x0 => d_api_Place x0 fun a0 => dCons r1 fun d1 r2 => dP d1 fun x1 => dInt .i64 x1 fun a1 => dNil r2 <| likeHp hi o fun o => k (.tup [.p (a0.e), .p (.int .i64 a1)]) o
theorem ca18_le (hi : List Ob) (v : D) (o : List Ob) (k : KV) : Le (ca18 hi v o k) (k v o) := by
 unfold ca18; refine dTup_le fun _ q => ?_; subst q; refine dCons_le fun _ _ q => ?_; subst q; refine dP_le fun _ q => ?_; subst q; refine d_api_Place_le fun _ q => ?_; subst q; refine dCons_le fun _ _ q => ?_; subst q; refine dP_le fun _ q => ?_; subst q; refine dInt_le fun _ q => ?_; subst q; refine dNil_le fun q => ?_; subst q; exact likeHp_le hi o (Le.refl _)
noncomputable def ca19 (hi : List Ob) (v : D) (o : List Ob) (k : KV) : R := dTup v fun r0 => dCons r0 fun d0 r1 => dP d0 fun x0 => d_api_Signature x0 fun a0 => dCons r1 fun d1 r2 => dP d1 fun x1 => dBool x1 fun a1 => dNil r2 <| likeHp hi o fun o => k (.tup [.p (a0.e), .p (.bool a1)]) o
theorem ca19_le (hi : List Ob) (v : D) (o : List Ob) (k : KV) : Le (ca19 hi v o k) (k v o) := by
 unfold ca19; refine dTup_le fun _ q => ?_; subst q; refine dCons_le fun _ _ q => ?_; subst q; refine dP_le fun _ q => ?_; subst q; refine d_api_Signature_le fun _ q => ?_; subst q; refine dCons_le fun _ _ q => ?_; subst q; refine dP_le fun _ q => ?_; subst q; refine dBool_le fun _ q => ?_; subst q; refine dNil_le fun q => ?_; subst q; exact likeHp_le hi o (Le.refl _)
noncomputable def ca21 (hi : List Ob) (v : D) (o : List Ob) (k : KV) : R := dTup v fun r0 => dCons r0 fun d0 r1 => dP d0 fun x0 => dInt .i64 x0 fun a0 => dCons r1 fun d1 r2 => dP d1 fun x1 => dBool x1 fun a1 => dNil r2 <| likeHp hi o fun o => k (.tup [.p (.int .i64 a0), .p (.bool a1)]) o
theorem ca21_le (hi : List Ob) (v : D) (o : List Ob) (k : KV) : Le (ca21 hi v o k) (k v o) := by
 unfold ca21; refine dTup_le fun _ q => ?_; subst q; refine dCons_le fun _ _ q => ?_; subst q; refine dP_le fun _ q => ?_; subst q; refine dInt_le fun _ q => ?_; subst q; refine dCons_le fun _ _ q => ?_; subst q; refine dP_le fun _ q => ?_; subst q; refine dBool_le fun _ q => ?_; subst q; refine dNil_le fun q => ?_; subst q; exact likeHp_le hi o (Le.refl _)
noncomputable def ca24 (hi : List Ob) (v : D) (o : List Ob) (k : KV) : R := dTup v fun r0 => dCons r0 fun d0 r1 => dP d0 fun x0 => dInt .i64 x0 fun a0 => dCons r1 fun d1 r2 => dP d1 fun x1 => dBool x1 fun a1 => dCons r2 fun d2 r3 => dP d2 fun x2 => dBool x2 fun a2 => dNil r3 <| likeHp hi o fun o => k (.tup [.p (.int .i64 a0), .p (.bool a1), .p (.bool a2)]) o
theorem ca24_le (hi : List Ob) (v : D) (o : List Ob) (k : KV) : Le (ca24 hi v o k) (k v o) := by
 unfold ca24; refine dTup_le fun _ q => ?_; subst q; refine dCons_le fun _ _ q => ?_; subst q; refine dP_le fun _ q => ?_; subst q; refine dInt_le fun _ q => ?_; subst q; refine dCons_le fun _ _ q => ?_; subst q; refine dP_le fun _ q => ?_; subst q; refine dBool_le fun _ q => ?_; subst q; refine dCons_le fun _ _ q => ?_; subst q; refine dP_le fun _ q => ?_; subst q; refine dBool_le fun _ q => ?_; subst q; refine dNil_le fun q => ?_; subst q; exact likeHp_le hi o (Le.refl _)
noncomputable def ca27 (hi : List Ob) (v : D) (o : List Ob) (k : KV) : R := dP v fun x0 => dSl 2 x0 fun a0 => likeHp hi o fun o => k (.p (.slice 2 a0)) o
theorem ca27_le (hi : List Ob) (v : D) (o : List Ob) (k : KV) : Le (ca27 hi v o k) (k v o) := by
 unfold ca27; refine dP_le fun _ q => ?_; subst q; refine dSl_le fun _ q => ?_; subst q; exact likeHp_le hi o (Le.refl _)
noncomputable def ca46 (hi : List Ob) (v : D) (o : List Ob) (k : KV) : R := dP v fun x0 => dBool x0 fun a0 => dSame hi o <| k (.p (.bool a0)) hi
theorem ca46_le (hi : List Ob) (v : D) (o : List Ob) (k : KV) : Le (ca46 hi v o k) (k v o) := by
 unfold ca46; refine dP_le fun _ q => ?_; subst q; refine dBool_le fun _ q => ?_; subst q; exact dSame_le fun q => by subst q; exact Le.refl _
noncomputable def ca54 (hi : List Ob) (v : D) (o : List Ob) (k : KV) : R := dTup v fun r0 => dCons r0 fun d0 r1 => dP d0 fun x0 => d_api_Method x0 fun a0 => dCons r1 fun d1 r2 => dP d1 fun x1 => dBool x1 fun a1 => dNil r2 <| dSame hi o <| k (.tup [.p (a0.e), .p (.bool a1)]) hi
theorem ca54_le (hi : List Ob) (v : D) (o : List Ob) (k : KV) : Le (ca54 hi v o k) (k v o) := by
 unfold ca54; refine dTup_le fun _ q => ?_; subst q; refine dCons_le fun _ _ q => ?_; subst q; refine dP_le fun _ q => ?_; subst q; refine d_api_Method_le fun _ q => ?_; subst q; refine dCons_le fun _ _ q => ?_; subst q; refine dP_le fun _ q => ?_; subst q; refine dBool_le fun _ q => ?_; subst q; refine dNil_le fun q => ?_; subst q; exact dSame_le fun q => by subst q; exact Le.refl _
noncomputable def ca55 (hi : List Ob) (v : D) (o : List Ob) (k : KV) : R := dTup v fun r0 => dCons r0 fun d0 r1 => dP d0 fun x0 => dInt .i64 x0 fun a0 => dCons r1 fun d1 r2 => dP d1 fun x1 => dBool x1 fun a1 => dNil r2 <| dSame hi o <| k (.tup [.p (.int .i64 a0), .p (.bool a1)]) hi
theorem ca55_le (hi : List Ob) (v : D) (o : List Ob) (k : KV) : Le (ca55 hi v o k) (k v o) := by
 unfold ca55; refine dTup_le fun _ q => ?_; subst q; refine dCons_le fun _ _ q => ?_; subst q; refine dP_le fun _ q => ?_; subst q; refine dInt_le fun _ q => ?_; subst q; refine dCons_le fun _ _ q => ?_; subst q; refine dP_le fun _ q => ?_; subst q; refine dBool_le fun _ q => ?_; subst q; refine dNil_le fun q => ?_; subst q; exact dSame_le fun q => by subst q; exact Le.refl _
noncomputable def ca60 (hi : List Ob) (v : D) (o : List Ob) (k : KV) : R := dTup v fun r0 => dCons r0 fun d0 r1 => dP d0 fun x0 => dInt .i64 x0 fun a0 => dCons r1 fun d1 r2 => dP d1 fun x1 => dBool x1 fun a1 => dCons r2 fun d2 r3 => dP d2 fun x2 => dBool x2 fun a2 => dNil r3 <| dSame hi o <| k (.tup [.p (.int .i64 a0), .p (.bool a1), .p (.bool a2)]) hi
theorem ca60_le (hi : List Ob) (v : D) (o : List Ob) (k : KV) : Le (ca60 hi v o k) (k v o) := by
 unfold ca60; refine dTup_le fun _ q => ?_; subst q; refine dCons_le fun _ _ q => ?_; subst q; refine dP_le fun _ q => ?_; subst q; refine dInt_le fun _ q => ?_; subst q; refine dCons_le fun _ _ q => ?_; subst q; refine dP_le fun _ q => ?_; subst q; refine dBool_le fun _ q => ?_; subst q; refine dCons_le fun _ _ q => ?_; subst q; refine dP_le fun _ q => ?_; subst q; refine dBool_le fun _ q => ?_; subst q; refine dNil_le fun q => ?_; subst q; exact dSame_le fun q => by subst q; exact Le.refl _
noncomputable def ca63 (hi : List Ob) (v : D) (o : List Ob) (k : KV) : R := dP v fun x0 => dSl 2 x0 fun a0 => dSame hi o <| k (.p (.slice 2 a0)) hi
theorem ca63_le (hi : List Ob) (v : D) (o : List Ob) (k : KV) : Le (ca63 hi v o k) (k v o) := by
 unfold ca63; refine dP_le fun _ q => ?_; subst q; refine dSl_le fun _ q => ?_; subst q; exact dSame_le fun q => by subst q; exact Le.refl _
noncomputable def ca81 (hi : List Ob) (v : D) (o : List Ob) (k : KV) : R := dP v fun x0 => dInt .i64 x0 fun a0 => dSame hi o <| k (.p (.int .i64 a0)) hi
theorem ca81_le (hi : List Ob) (v : D) (o : List Ob) (k : KV) : Le (ca81 hi v o k) (k v o) := by
 unfold ca81; refine dP_le fun _ q => ?_; subst q; refine dInt_le fun _ q => ?_; subst q; exact dSame_le fun q => by subst q; exact Le.refl _
noncomputable def ca88 (hi : List Ob) (v : D) (o : List Ob) (k : KV) : R := dTup v fun r0 => dCons r0 fun d0 r1 => dP d0 fun x0 => d_types_body x0 fun a0 => dCons r1 fun d1 r2 => dP d1 fun x1 => dInt .i64 x1 fun a1 => dCons r2 fun d2 r3 => dP d2 fun x2 => dInt .i64 x2 fun a2 => dNil r3 <| likeHp hi o fun o => k (.tup [.p (a0.e), .p (.int .i64 a1), .p (.int .i64 a2)]) o
theorem ca88_le (hi : List Ob) (v : D) (o : List Ob) (k : KV) : Le (ca88 hi v o k) (k v o) := by
 unfold ca88; refine dTup_le fun _ q => ?_; subst q; refine dCons_le fun _ _ q => ?_; subst q; refine dP_le fun _ q => ?_; subst q; refine d_types_body_le fun _ q => ?_; subst q; refine dCons_le fun _ _ q => ?_; subst q; refine dP_le fun _ q => ?_; subst q; refine dInt_le fun _ q => ?_; subst q; refine dCons_le fun _ _ q => ?_; subst q; refine dP_le fun _ q => ?_; subst q; refine dInt_le fun _ q => ?_; subst q; refine dNil_le fun q => ?_; subst q; exact likeHp_le hi o (Le.refl _)
noncomputable def ca100 (hi : List Ob) (v : D) (o : List Ob) (k : KV) : R := dP v fun x0 => dInt .i64 x0 fun a0 => likeHp hi o fun o => k (.p (.int .i64 a0)) o
theorem ca100_le (hi : List Ob) (v : D) (o : List Ob) (k : KV) : Le (ca100 hi v o k) (k v o) := by
 unfold ca100; refine dP_le fun _ q => ?_; subst q; refine dInt_le fun _ q => ?_; subst q; exact likeHp_le hi o (Le.refl _)
noncomputable def ca127 (hi : List Ob) (v : D) (o : List Ob) (k : KV) : R := dTup v fun r0 => dNil r0 <| d_Ckr o fun c => k (.tup []) c.hp
theorem ca127_le (hi : List Ob) (v : D) (o : List Ob) (k : KV) : Le (ca127 hi v o k) (k v o) := by
 unfold ca127; refine dTup_le fun _ q => ?_; subst q; refine dNil_le fun q => ?_; subst q; exact d_Ckr_le fun c q => by subst q; exact Le.refl _
noncomputable def ca128 (hi : List Ob) (v : D) (o : List Ob) (k : KV) : R := dP v fun x0 => dInt .i64 x0 fun a0 => d_Ckr o fun c => k (.p (.int .i64 a0)) c.hp
theorem ca128_le (hi : List Ob) (v : D) (o : List Ob) (k : KV) : Le (ca128 hi v o k) (k v o) := by
 unfold ca128; refine dP_le fun _ q => ?_; subst q; refine dInt_le fun _ q => ?_; subst q; exact d_Ckr_le fun c q => by subst q; exact Le.refl _
noncomputable def ca233 (hi : List Ob) (v : D) (o : List Ob) (k : KV) : R := dP v fun x0 => d_types_variable x0 fun a0 => d_Ckr o fun c => k (.p (a0.e)) c.hp
theorem ca233_le (hi : List Ob) (v : D) (o : List Ob) (k : KV) : Le (ca233 hi v o k) (k v o) := by
 unfold ca233; refine dP_le fun _ q => ?_; subst q; refine d_types_variable_le fun _ q => ?_; subst q; exact d_Ckr_le fun c q => by subst q; exact Le.refl _
noncomputable def ca268 (hi : List Ob) (v : D) (o : List Ob) (k : KV) : R := dTup v fun r0 => dCons r0 fun d0 r1 => dP d0 fun x0 => d_types_variable x0 fun a0 => dCons r1 fun d1 r2 => dP d1 fun x1 => dBool x1 fun a1 => dNil r2 <| dSame hi o <| k (.tup [.p (a0.e), .p (.bool a1)]) hi
theorem ca268_le (hi : List Ob) (v : D) (o : List Ob) (k : KV) : Le (ca268 hi v o k) (k v o) := by
 unfold ca268; refine dTup_le fun _ q => ?_; subst q; refine dCons_le fun _ _ q => ?_; subst q; refine dP_le fun _ q => ?_; subst q; refine d_types_variable_le fun _ q => ?_; subst q; refine dCons_le fun _ _ q => ?_; subst q; refine dP_le fun _ q => ?_; subst q; refine dBool_le fun _ q => ?_; subst q; refine dNil_le fun q => ?_; subst q; exact dSame_le fun q => by subst q; exact Le.refl _
noncomputable def caT (f : Nat) (hi : List Ob) (v : D) (o : List Ob) (k : KV) : R := bif Nat.beq f 228 then caCl hi v o k else bif Nat.beq f 269 then caBu hi v o k else bif Nat.beq f 53 then caAn hi v o k else bif Nat.beq f 92 then caBo hi v o k else  bif hasN f [16, 17, 20, 52, 71, 84, 121, 124, 125, 126, 164, 165, 174, 175, 176, 177, 178, 204, 221, 225, 226, 227, 229, 264, 292, 293] then ca16 hi v o k else bif hasN f [18] then ca18 hi v o k else bif hasN f [19] then ca19 hi v o k else bif hasN f [21] then ca21 hi v o k else bif hasN f [24] then ca24 hi v o k else bif hasN f [27, 96] then ca27 hi v o k else bif hasN f [46, 48, 85, 86, 87, 89, 91, 122, 123, 205, 219, 220, 222, 223, 224, 231, 232, 267] then ca46 hi v o k else bif hasN f [54] then ca54 hi v o k else bif hasN f [55] then ca55 hi v o k else bif hasN f [60] then ca60 hi v o k else bif hasN f [63] then ca63 hi v o k else bif hasN f [81, 90] then ca81 hi v o k else bif hasN f [88] then ca88 hi v o k else bif hasN f [100, 161, 163, 179, 218, 265] then ca100 hi v o k else bif hasN f [127, 180, 183, 184, 230, 236] then ca127 hi v o k else bif hasN f [128, 181, 182, 234, 235] then ca128 hi v o k else bif hasN f [233] then ca233 hi v o k else bif hasN f [268] then ca268 hi v o k else k v o
noncomputable def mvT (z : D) (x : Da) (k : Da → R) : R := match z with | .p (.int i _) => dInt i x fun n => k (.int i n) | .p (.bool _) => dBool x fun b => k (.bool b) | .p (.agg cs) => bif Nat.beq cs.length 3 then d_types_variable x fun t => k t.e else k x | _ => k x
noncomputable def elI (z : Nat) (x : Da) (k : Da → R) : R := bif Nat.beq z 8 then d_api_Node x fun t => k t.e else bif Nat.beq z 3 then d_api_ActorType x fun t => k t.e else bif Nat.beq z 4 then d_api_Method x fun t => k t.e else bif Nat.beq z 7 then d_api_Field x fun t => k t.e else bif Nat.beq z 2 then d_api_Param x fun t => k t.e else bif Nat.beq z 5 then d_api_Value x fun t => k t.e else bif Nat.beq z 1 then dInt .i64 x fun i => k (.int .i64 i) else bif Nat.beq z 0 then dInt .i64 x fun i => k (.int .i64 i) else k x
noncomputable def elS (z : Nat) (x : Da) (k : Da → R) : R := bif Nat.beq z 8 then d_api_Node x fun t => k t.e else bif Nat.beq z 3 then d_api_ActorType x fun t => k t.e else bif Nat.beq z 4 then d_api_Method x fun t => k t.e else bif Nat.beq z 7 then d_api_Field x fun t => k t.e else bif Nat.beq z 2 then d_api_Param x fun t => k t.e else bif Nat.beq z 5 then d_api_Value x fun t => k t.e else bif Nat.beq z 1 then dStr x fun s => k (.str s) else bif Nat.beq z 0 then dStr x fun s => k (.str s) else k x
noncomputable def elG (z : Nat) (x : Da) (k : Da → R) : R := bif Nat.beq z 8 then d_api_Node x fun t => k t.e else bif Nat.beq z 3 then d_api_ActorType x fun t => k t.e else bif Nat.beq z 4 then d_api_Method x fun t => k t.e else bif Nat.beq z 7 then d_api_Field x fun t => k t.e else bif Nat.beq z 2 then d_types_signature x fun t => k t.e else bif Nat.beq z 5 then d_api_Value x fun t => k t.e else bif Nat.beq z 1 then dInt .i64 x fun i => k (.int .i64 i) else bif Nat.beq z 0 then dInt .i64 x fun i => k (.int .i64 i) else k x
noncomputable def dcI : Dec := ⟨elI, caT, mvT, false, true⟩
noncomputable def dcIN : Dec := ⟨elI, caT, mvT, false, false⟩
noncomputable def dcIK : Dec := ⟨elI, caT, mvT, true, true⟩
noncomputable def dcS : Dec := ⟨elS, caT, mvT, false, true⟩
noncomputable def dcGK : Dec := ⟨elG, caT, mvT, true, true⟩
theorem elI_le (z : Nat) (x : Da) (k : Da → R) : Le (elI z x k) (k x) := by
 unfold elI
 cases Nat.beq z 8 <;> simp only [cond_true, cond_false]
 rotate_left
 ·exact d_api_Node_le fun _ q => by subst q; exact Le.refl _
 cases Nat.beq z 3 <;> simp only [cond_true, cond_false]
 rotate_left
 ·exact d_api_ActorType_le fun _ q => by subst q; exact Le.refl _
 cases Nat.beq z 4 <;> simp only [cond_true, cond_false]
 rotate_left
 ·exact d_api_Method_le fun _ q => by subst q; exact Le.refl _
 cases Nat.beq z 7 <;> simp only [cond_true, cond_false]
 rotate_left
 ·exact d_api_Field_le fun _ q => by subst q; exact Le.refl _
 cases Nat.beq z 2 <;> simp only [cond_true, cond_false]
 rotate_left
 ·exact d_api_Param_le fun _ q => by subst q; exact Le.refl _
 cases Nat.beq z 5 <;> simp only [cond_true, cond_false]
 rotate_left
 ·exact d_api_Value_le fun _ q => by subst q; exact Le.refl _
 cases Nat.beq z 1 <;> simp only [cond_true, cond_false]
 cases Nat.beq z 0 <;> simp only [cond_true, cond_false]
 ·exact Le.refl _
 all_goals exact dInt_le fun _ q => by subst q; exact Le.refl _
theorem elS_le (z : Nat) (x : Da) (k : Da → R) : Le (elS z x k) (k x) := by
 unfold elS
 cases Nat.beq z 8 <;> simp only [cond_true, cond_false]
 rotate_left
 ·exact d_api_Node_le fun _ q => by subst q; exact Le.refl _
 cases Nat.beq z 3 <;> simp only [cond_true, cond_false]
 rotate_left
 ·exact d_api_ActorType_le fun _ q => by subst q; exact Le.refl _
 cases Nat.beq z 4 <;> simp only [cond_true, cond_false]
 rotate_left
 ·exact d_api_Method_le fun _ q => by subst q; exact Le.refl _
 cases Nat.beq z 7 <;> simp only [cond_true, cond_false]
 rotate_left
 ·exact d_api_Field_le fun _ q => by subst q; exact Le.refl _
 cases Nat.beq z 2 <;> simp only [cond_true, cond_false]
 rotate_left
 ·exact d_api_Param_le fun _ q => by subst q; exact Le.refl _
 cases Nat.beq z 5 <;> simp only [cond_true, cond_false]
 rotate_left
 ·exact d_api_Value_le fun _ q => by subst q; exact Le.refl _
 cases Nat.beq z 1 <;> simp only [cond_true, cond_false]
 cases Nat.beq z 0 <;> simp only [cond_true, cond_false]
 ·exact Le.refl _
 all_goals exact dStr_le fun _ q => by subst q; exact Le.refl _
theorem elG_le (z : Nat) (x : Da) (k : Da → R) : Le (elG z x k) (k x) := by
 unfold elG
 cases Nat.beq z 8 <;> simp only [cond_true, cond_false]
 rotate_left
 ·exact d_api_Node_le fun _ q => by subst q; exact Le.refl _
 cases Nat.beq z 3 <;> simp only [cond_true, cond_false]
 rotate_left
 ·exact d_api_ActorType_le fun _ q => by subst q; exact Le.refl _
 cases Nat.beq z 4 <;> simp only [cond_true, cond_false]
 rotate_left
 ·exact d_api_Method_le fun _ q => by subst q; exact Le.refl _
 cases Nat.beq z 7 <;> simp only [cond_true, cond_false]
 rotate_left
 ·exact d_api_Field_le fun _ q => by subst q; exact Le.refl _
 cases Nat.beq z 2 <;> simp only [cond_true, cond_false]
 rotate_left
 ·exact d_types_signature_le fun _ q => by subst q; exact Le.refl _
 cases Nat.beq z 5 <;> simp only [cond_true, cond_false]
 rotate_left
 ·exact d_api_Value_le fun _ q => by subst q; exact Le.refl _
 cases Nat.beq z 1 <;> simp only [cond_true, cond_false]
 cases Nat.beq z 0 <;> simp only [cond_true, cond_false]
 ·exact Le.refl _
 all_goals exact dInt_le fun _ q => by subst q; exact Le.refl _
theorem caT_le (f : Nat) (hi : List Ob) (v : D) (o : List Ob) (k : KV) : Le (caT f hi v o k) (k v o) := by
 unfold caT
 cases Nat.beq f 228 <;> simp only [cond_true, cond_false]
 rotate_left
 ·exact caCl_le hi v o k
 cases Nat.beq f 269 <;> simp only [cond_true, cond_false]
 rotate_left
 ·exact caBu_le hi v o k
 cases Nat.beq f 53 <;> simp only [cond_true, cond_false]
 rotate_left
 ·exact caAn_le hi v o k
 cases Nat.beq f 92 <;> simp only [cond_true, cond_false]
 rotate_left
 ·exact caBo_le hi v o k
 cases hasN f _ <;> simp only [cond_true, cond_false]
 rotate_left
 ·exact ca16_le hi v o k
 cases hasN f _ <;> simp only [cond_true, cond_false]
 rotate_left
 ·exact ca18_le hi v o k
 cases hasN f _ <;> simp only [cond_true, cond_false]
 rotate_left
 ·exact ca19_le hi v o k
 cases hasN f _ <;> simp only [cond_true, cond_false]
 rotate_left
 ·exact ca21_le hi v o k
 cases hasN f _ <;> simp only [cond_true, cond_false]
 rotate_left
 ·exact ca24_le hi v o k
 cases hasN f _ <;> simp only [cond_true, cond_false]
 rotate_left
 ·exact ca27_le hi v o k
 cases hasN f _ <;> simp only [cond_true, cond_false]
 rotate_left
 ·exact ca46_le hi v o k
 cases hasN f _ <;> simp only [cond_true, cond_false]
 rotate_left
 ·exact ca54_le hi v o k
 cases hasN f _ <;> simp only [cond_true, cond_false]
 rotate_left
 ·exact ca55_le hi v o k
 cases hasN f _ <;> simp only [cond_true, cond_false]
 rotate_left
 ·exact ca60_le hi v o k
 cases hasN f _ <;> simp only [cond_true, cond_false]
 rotate_left
 ·exact ca63_le hi v o k
 cases hasN f _ <;> simp only [cond_true, cond_false]
 rotate_left
 ·exact ca81_le hi v o k
 cases hasN f _ <;> simp only [cond_true, cond_false]
 rotate_left
 ·exact ca88_le hi v o k
 cases hasN f _ <;> simp only [cond_true, cond_false]
 rotate_left
 ·exact ca100_le hi v o k
 cases hasN f _ <;> simp only [cond_true, cond_false]
 rotate_left
 ·exact ca127_le hi v o k
 cases hasN f _ <;> simp only [cond_true, cond_false]
 rotate_left
 ·exact ca128_le hi v o k
 cases hasN f _ <;> simp only [cond_true, cond_false]
 rotate_left
 ·exact ca233_le hi v o k
 cases hasN f _ <;> simp only [cond_true, cond_false]
 rotate_left
 ·exact ca268_le hi v o k
 exact Le.refl _
theorem mvT_le (z : D) (x : Da) (k : Da → R) : Le (mvT z x k) (k x) := by
 unfold mvT
 split
 ·exact dInt_le fun _ q => by subst q; exact Le.refl _
 ·exact dBool_le fun _ q => by subst q; exact Le.refl _
 ·skip
  cases Nat.beq _ 3 <;> simp only [cond_true, cond_false]
  rotate_left
  ·exact d_types_variable_le fun _ q => by subst q; exact Le.refl _
  exact Le.refl _
 ·exact Le.refl _
theorem dcI_ok : (dcI).Ok := ⟨elI_le, caT_le, mvT_le⟩
theorem dcIK_ok : (dcIK).Ok := ⟨elI_le, caT_le, mvT_le⟩
theorem dcIN_ok : (dcIN).Ok := ⟨elI_le, caT_le, mvT_le⟩
theorem dcS_ok : (dcS).Ok := ⟨elS_le, caT_le, mvT_le⟩
theorem dcGK_ok : (dcGK).Ok := ⟨elG_le, caT_le, mvT_le⟩
noncomputable def fxN (f : Nat) : Fx := (fxOf prog0 globs0 spec0 f).getD ⟨.skip, [], false⟩
theorem fnT (lp : CallC → LpT) (F : CallC → R) {f n m : Nat} {dc : Dec} {args : List D} {hp : List Ob} (hd : dc.Ok) (hx : lay0.tab f = some (.code (fxN f))) (hm : keepN f args hp.length = m) (hl : ∀ {cc : CallC} {call : CallF}, CcOk cc call → ∀ e ∈ loopsOf (fxN f).body 1, LpOk (lp cc) call n m e) (h : ∀ cc, runL m (lp cc) dc cc n (fxN f) args hp = F cc) : Le (F (evC lay0.tab n)) (evFn lay0.tab (n + 1) f args hp) :=
 fn_le hd hx hm (hl (evC_ok _ _)) (h _)
end Go.Ab
