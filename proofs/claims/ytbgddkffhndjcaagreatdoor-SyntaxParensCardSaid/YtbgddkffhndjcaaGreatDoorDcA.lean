import Derived.Test.YtbgddkffhndjcaaGreatDoorAl
import Derived.Test.YtbgddkffhndjcaaGreatDoorAwZ
import Derived.KernelRfl
set_option linter.all false
namespace Go.Ab
open Go
set_option maxRecDepth 100000
instance mvG:Mv:=⟨fun f=>bX f [123,135,147,156,159,160,161,162,133,131,136,134,132,122,107,145,146,104]⟩
noncomputable def io (hi o:List Ob)(k:R):R:= @ite _ (o=hi) (Classical.propDecidable _) k none
theorem OI {hi o:List Ob}{k Z:R}(h:o=hi→Le k Z):Le (io hi o k) Z:=by
 unfold io;split
 ·rename_i e;exact h e
 ·exact Le.no _
noncomputable def j8 (c d:D)(k:R):R:= @ite _ (d=c) (Classical.propDecidable _) k none
theorem sM {c d:D}{k Z:R}(h:d=c→Le k Z):Le (j8 c d k) Z:=by
 unfold j8;split
 ·rename_i e;exact h e
 ·exact Le.no _
theorem D4 (c:D)(k:R):j8 c c k=k:=by
 unfold j8;exact if_pos rfl
theorem iC (hi:List Ob)(k:R):io hi hi k=k:=by
 unfold io;exact if_pos rfl
structure aV where
 Types:List Da
def aV.e (t:aV):Da:= .agg [.slice 3 t.Types]
def aV.b (t:aV):Ob:= .box [.p (.slice 3 t.Types)]
noncomputable def cZ (x:Da)(k:aV→R):R:=w8 x fun r0=>af r0 fun c0 r1=>hY 3 c0 fun v0=>aB r1<|k ⟨v0⟩
theorem sN {x:Da}{k:aV→R}{Z:R}(h:∀t:aV,x=t.e→Le (k t) Z):Le (cZ x k) Z:=by
 unfold cZ;refine gT fun _ q=>?_;subst q;refine ab fun _ _ q=>?_;subst q;refine bw fun _ q=>?_;subst q;refine aE fun q=>?_;subst q;exact h ⟨_⟩ rfl
structure bu where
 Kind:Int
 Text:List Nat
 Num:Int
 At:Int
def bu.e (t:bu):Da:= .agg [.int .i64 t.Kind,.str t.Text,.int .i64 t.Num,.int .i64 t.At]
def bu.b (t:bu):Ob:= .box [.p (.int .i64 t.Kind),.p (.str t.Text),.p (.int .i64 t.Num),.p (.int .i64 t.At)]
noncomputable def aL (x:Da)(k:bu→R):R:=w8 x fun r0=>af r0 fun c0 r1=>au .i64 c0 fun v0=>af r1 fun c1 r2=>cC c1 fun v1=>af r2 fun c2 r3=>au .i64 c2 fun v2=>af r3 fun c3 r4=>au .i64 c3 fun v3=>aB r4<|k ⟨v0,v1,v2,v3⟩
theorem jj {x:Da}{k:bu→R}{Z:R}(h:∀t:bu,x=t.e→Le (k t) Z):Le (aL x k) Z:=by
 unfold aL;refine gT fun _ q=>?_;subst q;refine ab fun _ _ q=>?_;subst q;refine ah fun _ q=>?_;subst q;refine ab fun _ _ q=>?_;subst q;refine bR fun _ q=>?_;subst q;refine ab fun _ _ q=>?_;subst q;refine ah fun _ q=>?_;subst q;refine ab fun _ _ q=>?_;subst q;refine ah fun _ q=>?_;subst q;refine aE fun q=>?_;subst q;exact h ⟨_,_,_,_⟩ rfl
structure bs where
 Name:List Nat
 Fields:List Da
 Methods:List Da
def bs.e (t:bs):Da:= .agg [.str t.Name,.slice 7 t.Fields,.slice 4 t.Methods]
def bs.b (t:bs):Ob:= .box [.p (.str t.Name),.p (.slice 7 t.Fields),.p (.slice 4 t.Methods)]
noncomputable def bq (x:Da)(k:bs→R):R:=w8 x fun r0=>af r0 fun c0 r1=>cC c0 fun v0=>af r1 fun c1 r2=>hY 7 c1 fun v1=>af r2 fun c2 r3=>hY 4 c2 fun v2=>aB r3<|k ⟨v0,v1,v2⟩
theorem ck {x:Da}{k:bs→R}{Z:R}(h:∀t:bs,x=t.e→Le (k t) Z):Le (bq x k) Z:=by
 unfold bq;refine gT fun _ q=>?_;subst q;refine ab fun _ _ q=>?_;subst q;refine bR fun _ q=>?_;subst q;refine ab fun _ _ q=>?_;subst q;refine bw fun _ q=>?_;subst q;refine ab fun _ _ q=>?_;subst q;refine bw fun _ q=>?_;subst q;refine aE fun q=>?_;subst q;exact h ⟨_,_,_⟩ rfl
structure bH where
 Kind:Int
 N:Int
 S:List Nat
 I:List Da
 L:List Da
def bH.e (t:bH):Da:= .agg [.int .i64 t.Kind,.int .i64 t.N,.str t.S,.slice 1 t.I,.slice 1 t.L]
def bH.b (t:bH):Ob:= .box [.p (.int .i64 t.Kind),.p (.int .i64 t.N),.p (.str t.S),.p (.slice 1 t.I),.p (.slice 1 t.L)]
noncomputable def cn (x:Da)(k:bH→R):R:=w8 x fun r0=>af r0 fun c0 r1=>au .i64 c0 fun v0=>af r1 fun c1 r2=>au .i64 c1 fun v1=>af r2 fun c2 r3=>cC c2 fun v2=>af r3 fun c3 r4=>hY 1 c3 fun v3=>af r4 fun c4 r5=>hY 1 c4 fun v4=>aB r5<|k ⟨v0,v1,v2,v3,v4⟩
theorem dt {x:Da}{k:bH→R}{Z:R}(h:∀t:bH,x=t.e→Le (k t) Z):Le (cn x k) Z:=by
 unfold cn;refine gT fun _ q=>?_;subst q;refine ab fun _ _ q=>?_;subst q;refine ah fun _ q=>?_;subst q;refine ab fun _ _ q=>?_;subst q;refine ah fun _ q=>?_;subst q;refine ab fun _ _ q=>?_;subst q;refine bR fun _ q=>?_;subst q;refine ab fun _ _ q=>?_;subst q;refine bw fun _ q=>?_;subst q;refine ab fun _ _ q=>?_;subst q;refine bw fun _ q=>?_;subst q;refine aE fun q=>?_;subst q;exact h ⟨_,_,_,_,_⟩ rfl
structure ci where
 Name:List Nat
 Kind:Int
 Init_Kind:Int
 Init_N:Int
 Init_S:List Nat
 Init_I:List Da
 Init_L:List Da
def ci.e (t:ci):Da:= .agg [.str t.Name,.int .i64 t.Kind,.int .i64 t.Init_Kind,.int .i64 t.Init_N,.str t.Init_S,.slice 1 t.Init_I,.slice 1 t.Init_L]
def ci.b (t:ci):Ob:= .box [.p (.str t.Name),.p (.int .i64 t.Kind),.p (.int .i64 t.Init_Kind),.p (.int .i64 t.Init_N),.p (.str t.Init_S),.p (.slice 1 t.Init_I),.p (.slice 1 t.Init_L)]
noncomputable def cd (x:Da)(k:ci→R):R:=w8 x fun r0=>af r0 fun c0 r1=>cC c0 fun v0=>af r1 fun c1 r2=>au .i64 c1 fun v1=>af r2 fun c2 r3=>au .i64 c2 fun v2=>af r3 fun c3 r4=>au .i64 c3 fun v3=>af r4 fun c4 r5=>cC c4 fun v4=>af r5 fun c5 r6=>hY 1 c5 fun v5=>af r6 fun c6 r7=>hY 1 c6 fun v6=>aB r7<|k ⟨v0,v1,v2,v3,v4,v5,v6⟩
theorem dr {x:Da}{k:ci→R}{Z:R}(h:∀t:ci,x=t.e→Le (k t) Z):Le (cd x k) Z:=by
 unfold cd;refine gT fun _ q=>?_;subst q;refine ab fun _ _ q=>?_;subst q;refine bR fun _ q=>?_;subst q;refine ab fun _ _ q=>?_;subst q;refine ah fun _ q=>?_;subst q;refine ab fun _ _ q=>?_;subst q;refine ah fun _ q=>?_;subst q;refine ab fun _ _ q=>?_;subst q;refine ah fun _ q=>?_;subst q;refine ab fun _ _ q=>?_;subst q;refine bR fun _ q=>?_;subst q;refine ab fun _ _ q=>?_;subst q;refine bw fun _ q=>?_;subst q;refine ab fun _ _ q=>?_;subst q;refine bw fun _ q=>?_;subst q;refine aE fun q=>?_;subst q;exact h ⟨_,_,_,_,_,_,_⟩ rfl
structure bO where
 Name:List Nat
 Params:List Da
 Result:Int
 Nodes:List Da
def bO.e (t:bO):Da:= .agg [.str t.Name,.slice 2 t.Params,.int .i64 t.Result,.slice 8 t.Nodes]
def bO.b (t:bO):Ob:= .box [.p (.str t.Name),.p (.slice 2 t.Params),.p (.int .i64 t.Result),.p (.slice 8 t.Nodes)]
noncomputable def cS (x:Da)(k:bO→R):R:=w8 x fun r0=>af r0 fun c0 r1=>cC c0 fun v0=>af r1 fun c1 r2=>hY 2 c1 fun v1=>af r2 fun c2 r3=>au .i64 c2 fun v2=>af r3 fun c3 r4=>hY 8 c3 fun v3=>aB r4<|k ⟨v0,v1,v2,v3⟩
theorem mf {x:Da}{k:bO→R}{Z:R}(h:∀t:bO,x=t.e→Le (k t) Z):Le (cS x k) Z:=by
 unfold cS;refine gT fun _ q=>?_;subst q;refine ab fun _ _ q=>?_;subst q;refine bR fun _ q=>?_;subst q;refine ab fun _ _ q=>?_;subst q;refine bw fun _ q=>?_;subst q;refine ab fun _ _ q=>?_;subst q;refine ah fun _ q=>?_;subst q;refine ab fun _ _ q=>?_;subst q;refine bw fun _ q=>?_;subst q;refine aE fun q=>?_;subst q;exact h ⟨_,_,_,_⟩ rfl
structure bG where
 Op:Int
 Name:List Nat
 Value_Kind:Int
 Value_N:Int
 Value_S:List Nat
 Value_I:List Da
 Value_L:List Da
 Kids:List Da
def bG.e (t:bG):Da:= .agg [.int .i64 t.Op,.str t.Name,.int .i64 t.Value_Kind,.int .i64 t.Value_N,.str t.Value_S,.slice 1 t.Value_I,.slice 1 t.Value_L,.slice 1 t.Kids]
def bG.b (t:bG):Ob:= .box [.p (.int .i64 t.Op),.p (.str t.Name),.p (.int .i64 t.Value_Kind),.p (.int .i64 t.Value_N),.p (.str t.Value_S),.p (.slice 1 t.Value_I),.p (.slice 1 t.Value_L),.p (.slice 1 t.Kids)]
noncomputable def cu (x:Da)(k:bG→R):R:=w8 x fun r0=>af r0 fun c0 r1=>au .i64 c0 fun v0=>af r1 fun c1 r2=>cC c1 fun v1=>af r2 fun c2 r3=>au .i64 c2 fun v2=>af r3 fun c3 r4=>au .i64 c3 fun v3=>af r4 fun c4 r5=>cC c4 fun v4=>af r5 fun c5 r6=>hY 1 c5 fun v5=>af r6 fun c6 r7=>hY 1 c6 fun v6=>af r7 fun c7 r8=>hY 1 c7 fun v7=>aB r8<|k ⟨v0,v1,v2,v3,v4,v5,v6,v7⟩
theorem ed {x:Da}{k:bG→R}{Z:R}(h:∀t:bG,x=t.e→Le (k t) Z):Le (cu x k) Z:=by
 unfold cu;refine gT fun _ q=>?_;subst q;refine ab fun _ _ q=>?_;subst q;refine ah fun _ q=>?_;subst q;refine ab fun _ _ q=>?_;subst q;refine bR fun _ q=>?_;subst q;refine ab fun _ _ q=>?_;subst q;refine ah fun _ q=>?_;subst q;refine ab fun _ _ q=>?_;subst q;refine ah fun _ q=>?_;subst q;refine ab fun _ _ q=>?_;subst q;refine bR fun _ q=>?_;subst q;refine ab fun _ _ q=>?_;subst q;refine bw fun _ q=>?_;subst q;refine ab fun _ _ q=>?_;subst q;refine bw fun _ q=>?_;subst q;refine ab fun _ _ q=>?_;subst q;refine bw fun _ q=>?_;subst q;refine aE fun q=>?_;subst q;exact h ⟨_,_,_,_,_,_,_,_⟩ rfl
structure eP where
 Name:List Nat
 Kind:Int
def eP.e (t:eP):Da:= .agg [.str t.Name,.int .i64 t.Kind]
def eP.b (t:eP):Ob:= .box [.p (.str t.Name),.p (.int .i64 t.Kind)]
noncomputable def cE (x:Da)(k:eP→R):R:=w8 x fun r0=>af r0 fun c0 r1=>cC c0 fun v0=>af r1 fun c1 r2=>au .i64 c1 fun v1=>aB r2<|k ⟨v0,v1⟩
theorem eD {x:Da}{k:eP→R}{Z:R}(h:∀t:eP,x=t.e→Le (k t) Z):Le (cE x k) Z:=by
 unfold cE;refine gT fun _ q=>?_;subst q;refine ab fun _ _ q=>?_;subst q;refine bR fun _ q=>?_;subst q;refine ab fun _ _ q=>?_;subst q;refine ah fun _ q=>?_;subst q;refine aE fun q=>?_;subst q;exact h ⟨_,_⟩ rfl
structure bm where
 tk:List Da
 ps:Int
 en:Int
 aT:Int
 er:Int
 ne:Int
 tt:Int
 nd:Nat
 no:List Da
def bm.hp (c:bm):List Ob:=[.box [.p (.slice 4 c.tk),.p (.int .i64 c.ps),.p (.int .i64 c.en),.p (.int .i64 c.aT),.p (.int .i64 c.er),.p (.int .i64 c.ne),.p (.int .i64 c.tt),.arr 1 0 c.nd 8],.arr c.no]
noncomputable def az (o:List Ob)(k:bm→R):R:=af o fun a1 r2=>cI a1 fun l3=>af l3 fun d4 l5=>dP d4 fun x6=>hY 4 x6 fun tk=>af l5 fun d7 l8=>dP d7 fun x9=>au .i64 x9 fun ps=>af l8 fun d10 l11=>dP d10 fun x12=>au .i64 x12 fun en=>af l11 fun d13 l14=>dP d13 fun x15=>au .i64 x15 fun aT=>af l14 fun d16 l17=>dP d16 fun x18=>au .i64 x18 fun er=>af l17 fun d19 l20=>dP d19 fun x21=>au .i64 x21 fun ne=>af l20 fun d22 l23=>dP d22 fun x24=>au .i64 x24 fun tt=>af l23 fun d25 l26=>iB 1 8 d25 fun nd=>aB l26<|af r2 fun a27 r28=>gL a27 fun no=>aB r28<|k ⟨tk,ps,en,aT,er,ne,tt,nd,no⟩
theorem dX {o:List Ob}{k:bm→R}{Z:R}(h:∀c:bm,o=c.hp→Le (k c) Z):Le (az o k) Z:=by
 unfold az;refine ab fun _ _ q=>?_;subst q;refine ba fun _ q=>?_;subst q;refine ab fun _ _ q=>?_;subst q;refine ar fun _ q=>?_;subst q;refine bw fun _ q=>?_;subst q;refine ab fun _ _ q=>?_;subst q;refine ar fun _ q=>?_;subst q;refine ah fun _ q=>?_;subst q;refine ab fun _ _ q=>?_;subst q;refine ar fun _ q=>?_;subst q;refine ah fun _ q=>?_;subst q;refine ab fun _ _ q=>?_;subst q;refine ar fun _ q=>?_;subst q;refine ah fun _ q=>?_;subst q;refine ab fun _ _ q=>?_;subst q;refine ar fun _ q=>?_;subst q;refine ah fun _ q=>?_;subst q;refine ab fun _ _ q=>?_;subst q;refine ar fun _ q=>?_;subst q;refine ah fun _ q=>?_;subst q;refine ab fun _ _ q=>?_;subst q;refine ar fun _ q=>?_;subst q;refine ah fun _ q=>?_;subst q;refine ab fun _ _ q=>?_;subst q;refine bV fun _ q=>?_;subst q;refine aE fun q=>?_;subst q;refine ab fun _ _ q=>?_;subst q;refine bY fun _ q=>?_;subst q;refine aE fun q=>?_;subst q;exact h ⟨_,_,_,_,_,_,_,_,_⟩ rfl
noncomputable def yo:Rd (List Ob) bm:=⟨bm.hp,az,fun _ _ _ H=>dX fun t q=>by subst q;exact H t⟩
structure bD where
 tk:List Da
 ps:Int
 en:Int
 aT:Int
 er:Int
 ne:Int
 tt:Int
 nd:List Da
def bD.hp (c:bD):List Ob:=[.box [.p (.slice 4 c.tk),.p (.int .i64 c.ps),.p (.int .i64 c.en),.p (.int .i64 c.aT),.p (.int .i64 c.er),.p (.int .i64 c.ne),.p (.int .i64 c.tt),.p (.slice 8 c.nd)]]
noncomputable def aN (o:List Ob)(k:bD→R):R:=af o fun a1 r2=>cI a1 fun l3=>af l3 fun d4 l5=>dP d4 fun x6=>hY 4 x6 fun tk=>af l5 fun d7 l8=>dP d7 fun x9=>au .i64 x9 fun ps=>af l8 fun d10 l11=>dP d10 fun x12=>au .i64 x12 fun en=>af l11 fun d13 l14=>dP d13 fun x15=>au .i64 x15 fun aT=>af l14 fun d16 l17=>dP d16 fun x18=>au .i64 x18 fun er=>af l17 fun d19 l20=>dP d19 fun x21=>au .i64 x21 fun ne=>af l20 fun d22 l23=>dP d22 fun x24=>au .i64 x24 fun tt=>af l23 fun d25 l26=>dP d25 fun x27=>hY 8 x27 fun nd=>aB l26<|aB r2<|k ⟨tk,ps,en,aT,er,ne,tt,nd⟩
theorem f7 {o:List Ob}{k:bD→R}{Z:R}(h:∀c:bD,o=c.hp→Le (k c) Z):Le (aN o k) Z:=by
 unfold aN;refine ab fun _ _ q=>?_;subst q;refine ba fun _ q=>?_;subst q;refine ab fun _ _ q=>?_;subst q;refine ar fun _ q=>?_;subst q;refine bw fun _ q=>?_;subst q;refine ab fun _ _ q=>?_;subst q;refine ar fun _ q=>?_;subst q;refine ah fun _ q=>?_;subst q;refine ab fun _ _ q=>?_;subst q;refine ar fun _ q=>?_;subst q;refine ah fun _ q=>?_;subst q;refine ab fun _ _ q=>?_;subst q;refine ar fun _ q=>?_;subst q;refine ah fun _ q=>?_;subst q;refine ab fun _ _ q=>?_;subst q;refine ar fun _ q=>?_;subst q;refine ah fun _ q=>?_;subst q;refine ab fun _ _ q=>?_;subst q;refine ar fun _ q=>?_;subst q;refine ah fun _ q=>?_;subst q;refine ab fun _ _ q=>?_;subst q;refine ar fun _ q=>?_;subst q;refine ah fun _ q=>?_;subst q;refine ab fun _ _ q=>?_;subst q;refine ar fun _ q=>?_;subst q;refine bw fun _ q=>?_;subst q;refine aE fun q=>?_;subst q;refine aE fun q=>?_;subst q;exact h ⟨_,_,_,_,_,_,_,_⟩ rfl
noncomputable def XQ:Rd (List Ob) bD:=⟨bD.hp,aN,fun _ _ _ H=>f7 fun t q=>by subst q;exact H t⟩
structure za where
 tk:List Da
 ps:Int
 en:Int
 aT:Int
 er:Int
 ne:Int
 tt:Int
 nd:Nat
 ou:Nat
 no:List Da
 ol:List Da
def za.hp (c:za):List Ob:=[.box [.p (.slice 4 c.tk),.p (.int .i64 c.ps),.p (.int .i64 c.en),.p (.int .i64 c.aT),.p (.int .i64 c.er),.p (.int .i64 c.ne),.p (.int .i64 c.tt),.arr 3 0 c.nd 8],.box [.arr 4 0 c.ou 1],.box [.box 0 0],.arr c.no,.arr c.ol]
noncomputable def D7 (o:List Ob)(k:za→R):R:=af o fun a1 r2=>cI a1 fun l3=>af l3 fun d4 l5=>dP d4 fun x6=>hY 4 x6 fun tk=>af l5 fun d7 l8=>dP d7 fun x9=>au .i64 x9 fun ps=>af l8 fun d10 l11=>dP d10 fun x12=>au .i64 x12 fun en=>af l11 fun d13 l14=>dP d13 fun x15=>au .i64 x15 fun aT=>af l14 fun d16 l17=>dP d16 fun x18=>au .i64 x18 fun er=>af l17 fun d19 l20=>dP d19 fun x21=>au .i64 x21 fun ne=>af l20 fun d22 l23=>dP d22 fun x24=>au .i64 x24 fun tt=>af l23 fun d25 l26=>iB 3 8 d25 fun nd=>aB l26<|af r2 fun a27 r28=>cI a27 fun l29=>af l29 fun d30 l31=>iB 4 1 d30 fun ou=>aB l31<|af r28 fun a32 r33=>cI a32 fun l34=>af l34 fun d35 l36=>np 0 0 d35<|aB l36<|af r33 fun a37 r38=>gL a37 fun no=>af r38 fun a39 r40=>gL a39 fun ol=>aB r40<|k ⟨tk,ps,en,aT,er,ne,tt,nd,ou,no,ol⟩
theorem OU {o:List Ob}{k:za→R}{Z:R}(h:∀c:za,o=c.hp→Le (k c) Z):Le (D7 o k) Z:=by
 unfold D7;refine ab fun _ _ q=>?_;subst q;refine ba fun _ q=>?_;subst q;refine ab fun _ _ q=>?_;subst q;refine ar fun _ q=>?_;subst q;refine bw fun _ q=>?_;subst q;refine ab fun _ _ q=>?_;subst q;refine ar fun _ q=>?_;subst q;refine ah fun _ q=>?_;subst q;refine ab fun _ _ q=>?_;subst q;refine ar fun _ q=>?_;subst q;refine ah fun _ q=>?_;subst q;refine ab fun _ _ q=>?_;subst q;refine ar fun _ q=>?_;subst q;refine ah fun _ q=>?_;subst q;refine ab fun _ _ q=>?_;subst q;refine ar fun _ q=>?_;subst q;refine ah fun _ q=>?_;subst q;refine ab fun _ _ q=>?_;subst q;refine ar fun _ q=>?_;subst q;refine ah fun _ q=>?_;subst q;refine ab fun _ _ q=>?_;subst q;refine ar fun _ q=>?_;subst q;refine ah fun _ q=>?_;subst q;refine ab fun _ _ q=>?_;subst q;refine bV fun _ q=>?_;subst q;refine aE fun q=>?_;subst q;refine ab fun _ _ q=>?_;subst q;refine ba fun _ q=>?_;subst q;refine ab fun _ _ q=>?_;subst q;refine bV fun _ q=>?_;subst q;refine aE fun q=>?_;subst q;refine ab fun _ _ q=>?_;subst q;refine ba fun _ q=>?_;subst q;refine ab fun _ _ q=>?_;subst q;refine dj fun q=>?_;subst q;refine aE fun q=>?_;subst q;refine ab fun _ _ q=>?_;subst q;refine bY fun _ q=>?_;subst q;refine ab fun _ _ q=>?_;subst q;refine bY fun _ q=>?_;subst q;refine aE fun q=>?_;subst q;exact h ⟨_,_,_,_,_,_,_,_,_,_,_⟩ rfl
structure UY where
 ou:Nat
 ol:List Da
 tk:List Da
 ps:Int
 en:Int
 aT:Int
 er:Int
 ne:Int
 tt:Int
 nd:Nat
 no:List Da
def UY.hp (c:UY):List Ob:=[.box [.arr 1 0 c.ou 1],.arr c.ol,.box [.box 3 0],.box [.p (.slice 4 c.tk),.p (.int .i64 c.ps),.p (.int .i64 c.en),.p (.int .i64 c.aT),.p (.int .i64 c.er),.p (.int .i64 c.ne),.p (.int .i64 c.tt),.arr 4 0 c.nd 8],.arr c.no]
structure RB where
 ou:Nat
 tk:List Da
 ps:Int
 en:Int
 aT:Int
 er:Int
 ne:Int
 tt:Int
 nd:Nat
 ol:List Da
 no:List Da
def RB.hp (c:RB):List Ob:=[.box [.arr 5 0 c.ou 1],.dead,.box [.box 3 0],.box [.p (.slice 4 c.tk),.p (.int .i64 c.ps),.p (.int .i64 c.en),.p (.int .i64 c.aT),.p (.int .i64 c.er),.p (.int .i64 c.ne),.p (.int .i64 c.tt),.arr 6 0 c.nd 8],.dead,.arr c.ol,.arr c.no]
noncomputable def D5 (o:List Ob)(k:RB→R):R:=af o fun a1 r2=>cI a1 fun l3=>af l3 fun d4 l5=>iB 5 1 d4 fun ou=>aB l5<|af r2 fun a6 r7=>rr a6<|af r7 fun a8 r9=>cI a8 fun l10=>af l10 fun d11 l12=>np 3 0 d11<|aB l12<|af r9 fun a13 r14=>cI a13 fun l15=>af l15 fun d16 l17=>dP d16 fun x18=>hY 4 x18 fun tk=>af l17 fun d19 l20=>dP d19 fun x21=>au .i64 x21 fun ps=>af l20 fun d22 l23=>dP d22 fun x24=>au .i64 x24 fun en=>af l23 fun d25 l26=>dP d25 fun x27=>au .i64 x27 fun aT=>af l26 fun d28 l29=>dP d28 fun x30=>au .i64 x30 fun er=>af l29 fun d31 l32=>dP d31 fun x33=>au .i64 x33 fun ne=>af l32 fun d34 l35=>dP d34 fun x36=>au .i64 x36 fun tt=>af l35 fun d37 l38=>iB 6 8 d37 fun nd=>aB l38<|af r14 fun a39 r40=>rr a39<|af r40 fun a41 r42=>gL a41 fun ol=>af r42 fun a43 r44=>gL a43 fun no=>aB r44<|k ⟨ou,tk,ps,en,aT,er,ne,tt,nd,ol,no⟩
theorem OS {o:List Ob}{k:RB→R}{Z:R}(h:∀c:RB,o=c.hp→Le (k c) Z):Le (D5 o k) Z:=by
 unfold D5;refine ab fun _ _ q=>?_;subst q;refine ba fun _ q=>?_;subst q;refine ab fun _ _ q=>?_;subst q;refine bV fun _ q=>?_;subst q;refine aE fun q=>?_;subst q;refine ab fun _ _ q=>?_;subst q;refine hM fun q=>?_;subst q;refine ab fun _ _ q=>?_;subst q;refine ba fun _ q=>?_;subst q;refine ab fun _ _ q=>?_;subst q;refine dj fun q=>?_;subst q;refine aE fun q=>?_;subst q;refine ab fun _ _ q=>?_;subst q;refine ba fun _ q=>?_;subst q;refine ab fun _ _ q=>?_;subst q;refine ar fun _ q=>?_;subst q;refine bw fun _ q=>?_;subst q;refine ab fun _ _ q=>?_;subst q;refine ar fun _ q=>?_;subst q;refine ah fun _ q=>?_;subst q;refine ab fun _ _ q=>?_;subst q;refine ar fun _ q=>?_;subst q;refine ah fun _ q=>?_;subst q;refine ab fun _ _ q=>?_;subst q;refine ar fun _ q=>?_;subst q;refine ah fun _ q=>?_;subst q;refine ab fun _ _ q=>?_;subst q;refine ar fun _ q=>?_;subst q;refine ah fun _ q=>?_;subst q;refine ab fun _ _ q=>?_;subst q;refine ar fun _ q=>?_;subst q;refine ah fun _ q=>?_;subst q;refine ab fun _ _ q=>?_;subst q;refine ar fun _ q=>?_;subst q;refine ah fun _ q=>?_;subst q;refine ab fun _ _ q=>?_;subst q;refine bV fun _ q=>?_;subst q;refine aE fun q=>?_;subst q;refine ab fun _ _ q=>?_;subst q;refine hM fun q=>?_;subst q;refine ab fun _ _ q=>?_;subst q;refine bY fun _ q=>?_;subst q;refine ab fun _ _ q=>?_;subst q;refine bY fun _ q=>?_;subst q;refine aE fun q=>?_;subst q;exact h ⟨_,_,_,_,_,_,_,_,_,_,_⟩ rfl
structure FX where
 tk:List Da
 ps:Int
 en:Int
 aT:Int
 er:Int
 ne:Int
 tt:Int
def FX.hp (c:FX):List Ob:=[.box [.p (.slice 4 c.tk),.p (.int .i64 c.ps),.p (.int .i64 c.en),.p (.int .i64 c.aT),.p (.int .i64 c.er),.p (.int .i64 c.ne),.p (.int .i64 c.tt),.sl .nil 8 []]]
structure Zf where
 tk:List Da
 ps:Int
 en:Int
 aT:Int
 er:Int
 ne:Int
 tt:Int
 nd:Nat
 no:List Da
def Zf.hp (c:Zf):List Ob:=[.box [.p (.slice 4 c.tk),.p (.int .i64 c.ps),.p (.int .i64 c.en),.p (.int .i64 c.aT),.p (.int .i64 c.er),.p (.int .i64 c.ne),.p (.int .i64 c.tt),.arr 1 0 c.nd 8],.fz c.no]
structure J4 where
 tk:List Da
 ps:Int
 en:Int
 aT:Int
 er:Int
 ne:Int
 tt:Int
 nd:Nat
 vk:Int
 vn:Int
 vs:List Nat
 vi:Nat
 no:List Da
 il:List Da
def J4.hp (c:J4):List Ob:=[.box [.p (.slice 4 c.tk),.p (.int .i64 c.ps),.p (.int .i64 c.en),.p (.int .i64 c.aT),.p (.int .i64 c.er),.p (.int .i64 c.ne),.p (.int .i64 c.tt),.arr 3 0 c.nd 8],.box [.box 0 0],.box [.p (.int .i64 c.vk),.p (.int .i64 c.vn),.p (.str c.vs),.arr 4 0 c.vi 1,.sl .nil 1 []],.arr c.no,.arr c.il]
noncomputable def BX (o:List Ob)(k:J4→R):R:=af o fun a1 r2=>cI a1 fun l3=>af l3 fun d4 l5=>dP d4 fun x6=>hY 4 x6 fun tk=>af l5 fun d7 l8=>dP d7 fun x9=>au .i64 x9 fun ps=>af l8 fun d10 l11=>dP d10 fun x12=>au .i64 x12 fun en=>af l11 fun d13 l14=>dP d13 fun x15=>au .i64 x15 fun aT=>af l14 fun d16 l17=>dP d16 fun x18=>au .i64 x18 fun er=>af l17 fun d19 l20=>dP d19 fun x21=>au .i64 x21 fun ne=>af l20 fun d22 l23=>dP d22 fun x24=>au .i64 x24 fun tt=>af l23 fun d25 l26=>iB 3 8 d25 fun nd=>aB l26<|af r2 fun a27 r28=>cI a27 fun l29=>af l29 fun d30 l31=>np 0 0 d30<|aB l31<|af r28 fun a32 r33=>cI a32 fun l34=>af l34 fun d35 l36=>dP d35 fun x37=>au .i64 x37 fun vk=>af l36 fun d38 l39=>dP d38 fun x40=>au .i64 x40 fun vn=>af l39 fun d41 l42=>dP d41 fun x43=>cC x43 fun vs=>af l42 fun d44 l45=>iB 4 1 d44 fun vi=>af l45 fun d46 l47=>IN 1 d46<|aB l47<|af r33 fun a48 r49=>gL a48 fun no=>af r49 fun a50 r51=>gL a50 fun il=>aB r51<|k ⟨tk,ps,en,aT,er,ne,tt,nd,vk,vn,vs,vi,no,il⟩
theorem KK {o:List Ob}{k:J4→R}{Z:R}(h:∀c:J4,o=c.hp→Le (k c) Z):Le (BX o k) Z:=by
 unfold BX;refine ab fun _ _ q=>?_;subst q;refine ba fun _ q=>?_;subst q;refine ab fun _ _ q=>?_;subst q;refine ar fun _ q=>?_;subst q;refine bw fun _ q=>?_;subst q;refine ab fun _ _ q=>?_;subst q;refine ar fun _ q=>?_;subst q;refine ah fun _ q=>?_;subst q;refine ab fun _ _ q=>?_;subst q;refine ar fun _ q=>?_;subst q;refine ah fun _ q=>?_;subst q;refine ab fun _ _ q=>?_;subst q;refine ar fun _ q=>?_;subst q;refine ah fun _ q=>?_;subst q;refine ab fun _ _ q=>?_;subst q;refine ar fun _ q=>?_;subst q;refine ah fun _ q=>?_;subst q;refine ab fun _ _ q=>?_;subst q;refine ar fun _ q=>?_;subst q;refine ah fun _ q=>?_;subst q;refine ab fun _ _ q=>?_;subst q;refine ar fun _ q=>?_;subst q;refine ah fun _ q=>?_;subst q;refine ab fun _ _ q=>?_;subst q;refine bV fun _ q=>?_;subst q;refine aE fun q=>?_;subst q;refine ab fun _ _ q=>?_;subst q;refine ba fun _ q=>?_;subst q;refine ab fun _ _ q=>?_;subst q;refine dj fun q=>?_;subst q;refine aE fun q=>?_;subst q;refine ab fun _ _ q=>?_;subst q;refine ba fun _ q=>?_;subst q;refine ab fun _ _ q=>?_;subst q;refine ar fun _ q=>?_;subst q;refine ah fun _ q=>?_;subst q;refine ab fun _ _ q=>?_;subst q;refine ar fun _ q=>?_;subst q;refine ah fun _ q=>?_;subst q;refine ab fun _ _ q=>?_;subst q;refine ar fun _ q=>?_;subst q;refine bR fun _ q=>?_;subst q;refine ab fun _ _ q=>?_;subst q;refine bV fun _ q=>?_;subst q;refine ab fun _ _ q=>?_;subst q;refine ic fun q=>?_;subst q;refine aE fun q=>?_;subst q;refine ab fun _ _ q=>?_;subst q;refine bY fun _ q=>?_;subst q;refine ab fun _ _ q=>?_;subst q;refine bY fun _ q=>?_;subst q;refine aE fun q=>?_;subst q;exact h ⟨_,_,_,_,_,_,_,_,_,_,_,_,_,_⟩ rfl
structure J5 where
 tk:List Da
 ps:Int
 en:Int
 aT:Int
 er:Int
 ne:Int
 tt:Int
 nd:Nat
 vk:Int
 vn:Int
 vs:List Nat
 vl:Nat
 no:List Da
 il:List Da
def J5.hp (c:J5):List Ob:=[.box [.p (.slice 4 c.tk),.p (.int .i64 c.ps),.p (.int .i64 c.en),.p (.int .i64 c.aT),.p (.int .i64 c.er),.p (.int .i64 c.ne),.p (.int .i64 c.tt),.arr 3 0 c.nd 8],.box [.box 0 0],.box [.p (.int .i64 c.vk),.p (.int .i64 c.vn),.p (.str c.vs),.sl .nil 1 [],.arr 4 0 c.vl 1],.arr c.no,.arr c.il]
noncomputable def BY (o:List Ob)(k:J5→R):R:=af o fun a1 r2=>cI a1 fun l3=>af l3 fun d4 l5=>dP d4 fun x6=>hY 4 x6 fun tk=>af l5 fun d7 l8=>dP d7 fun x9=>au .i64 x9 fun ps=>af l8 fun d10 l11=>dP d10 fun x12=>au .i64 x12 fun en=>af l11 fun d13 l14=>dP d13 fun x15=>au .i64 x15 fun aT=>af l14 fun d16 l17=>dP d16 fun x18=>au .i64 x18 fun er=>af l17 fun d19 l20=>dP d19 fun x21=>au .i64 x21 fun ne=>af l20 fun d22 l23=>dP d22 fun x24=>au .i64 x24 fun tt=>af l23 fun d25 l26=>iB 3 8 d25 fun nd=>aB l26<|af r2 fun a27 r28=>cI a27 fun l29=>af l29 fun d30 l31=>np 0 0 d30<|aB l31<|af r28 fun a32 r33=>cI a32 fun l34=>af l34 fun d35 l36=>dP d35 fun x37=>au .i64 x37 fun vk=>af l36 fun d38 l39=>dP d38 fun x40=>au .i64 x40 fun vn=>af l39 fun d41 l42=>dP d41 fun x43=>cC x43 fun vs=>af l42 fun d44 l45=>IN 1 d44<|af l45 fun d46 l47=>iB 4 1 d46 fun vl=>aB l47<|af r33 fun a48 r49=>gL a48 fun no=>af r49 fun a50 r51=>gL a50 fun il=>aB r51<|k ⟨tk,ps,en,aT,er,ne,tt,nd,vk,vn,vs,vl,no,il⟩
theorem KN {o:List Ob}{k:J5→R}{Z:R}(h:∀c:J5,o=c.hp→Le (k c) Z):Le (BY o k) Z:=by
 unfold BY;refine ab fun _ _ q=>?_;subst q;refine ba fun _ q=>?_;subst q;refine ab fun _ _ q=>?_;subst q;refine ar fun _ q=>?_;subst q;refine bw fun _ q=>?_;subst q;refine ab fun _ _ q=>?_;subst q;refine ar fun _ q=>?_;subst q;refine ah fun _ q=>?_;subst q;refine ab fun _ _ q=>?_;subst q;refine ar fun _ q=>?_;subst q;refine ah fun _ q=>?_;subst q;refine ab fun _ _ q=>?_;subst q;refine ar fun _ q=>?_;subst q;refine ah fun _ q=>?_;subst q;refine ab fun _ _ q=>?_;subst q;refine ar fun _ q=>?_;subst q;refine ah fun _ q=>?_;subst q;refine ab fun _ _ q=>?_;subst q;refine ar fun _ q=>?_;subst q;refine ah fun _ q=>?_;subst q;refine ab fun _ _ q=>?_;subst q;refine ar fun _ q=>?_;subst q;refine ah fun _ q=>?_;subst q;refine ab fun _ _ q=>?_;subst q;refine bV fun _ q=>?_;subst q;refine aE fun q=>?_;subst q;refine ab fun _ _ q=>?_;subst q;refine ba fun _ q=>?_;subst q;refine ab fun _ _ q=>?_;subst q;refine dj fun q=>?_;subst q;refine aE fun q=>?_;subst q;refine ab fun _ _ q=>?_;subst q;refine ba fun _ q=>?_;subst q;refine ab fun _ _ q=>?_;subst q;refine ar fun _ q=>?_;subst q;refine ah fun _ q=>?_;subst q;refine ab fun _ _ q=>?_;subst q;refine ar fun _ q=>?_;subst q;refine ah fun _ q=>?_;subst q;refine ab fun _ _ q=>?_;subst q;refine ar fun _ q=>?_;subst q;refine bR fun _ q=>?_;subst q;refine ab fun _ _ q=>?_;subst q;refine ic fun q=>?_;subst q;refine ab fun _ _ q=>?_;subst q;refine bV fun _ q=>?_;subst q;refine aE fun q=>?_;subst q;refine ab fun _ _ q=>?_;subst q;refine bY fun _ q=>?_;subst q;refine ab fun _ _ q=>?_;subst q;refine bY fun _ q=>?_;subst q;refine aE fun q=>?_;subst q;exact h ⟨_,_,_,_,_,_,_,_,_,_,_,_,_,_⟩ rfl
structure j6 where
 tk:List Da
 ps:Int
 en:Int
 aT:Int
 er:Int
 ne:Int
 tt:Int
 nd:List Da
 vk:Int
 vn:Int
 vs:List Nat
 vi:Nat
 il:List Da
def j6.hp (c:j6):List Ob:=[.box [.p (.slice 4 c.tk),.p (.int .i64 c.ps),.p (.int .i64 c.en),.p (.int .i64 c.aT),.p (.int .i64 c.er),.p (.int .i64 c.ne),.p (.int .i64 c.tt),.p (.slice 8 c.nd)],.box [.box 0 0],.box [.p (.int .i64 c.vk),.p (.int .i64 c.vn),.p (.str c.vs),.arr 3 0 c.vi 1,.sl .nil 1 []],.arr c.il]
noncomputable def xb (o:List Ob)(k:j6→R):R:=af o fun a1 r2=>cI a1 fun l3=>af l3 fun d4 l5=>dP d4 fun x6=>hY 4 x6 fun tk=>af l5 fun d7 l8=>dP d7 fun x9=>au .i64 x9 fun ps=>af l8 fun d10 l11=>dP d10 fun x12=>au .i64 x12 fun en=>af l11 fun d13 l14=>dP d13 fun x15=>au .i64 x15 fun aT=>af l14 fun d16 l17=>dP d16 fun x18=>au .i64 x18 fun er=>af l17 fun d19 l20=>dP d19 fun x21=>au .i64 x21 fun ne=>af l20 fun d22 l23=>dP d22 fun x24=>au .i64 x24 fun tt=>af l23 fun d25 l26=>dP d25 fun x27=>hY 8 x27 fun nd=>aB l26<|af r2 fun a28 r29=>cI a28 fun l30=>af l30 fun d31 l32=>np 0 0 d31<|aB l32<|af r29 fun a33 r34=>cI a33 fun l35=>af l35 fun d36 l37=>dP d36 fun x38=>au .i64 x38 fun vk=>af l37 fun d39 l40=>dP d39 fun x41=>au .i64 x41 fun vn=>af l40 fun d42 l43=>dP d42 fun x44=>cC x44 fun vs=>af l43 fun d45 l46=>iB 3 1 d45 fun vi=>af l46 fun d47 l48=>IN 1 d47<|aB l48<|af r34 fun a49 r50=>gL a49 fun il=>aB r50<|k ⟨tk,ps,en,aT,er,ne,tt,nd,vk,vn,vs,vi,il⟩
theorem KO {o:List Ob}{k:j6→R}{Z:R}(h:∀c:j6,o=c.hp→Le (k c) Z):Le (xb o k) Z:=by
 unfold xb;refine ab fun _ _ q=>?_;subst q;refine ba fun _ q=>?_;subst q;refine ab fun _ _ q=>?_;subst q;refine ar fun _ q=>?_;subst q;refine bw fun _ q=>?_;subst q;refine ab fun _ _ q=>?_;subst q;refine ar fun _ q=>?_;subst q;refine ah fun _ q=>?_;subst q;refine ab fun _ _ q=>?_;subst q;refine ar fun _ q=>?_;subst q;refine ah fun _ q=>?_;subst q;refine ab fun _ _ q=>?_;subst q;refine ar fun _ q=>?_;subst q;refine ah fun _ q=>?_;subst q;refine ab fun _ _ q=>?_;subst q;refine ar fun _ q=>?_;subst q;refine ah fun _ q=>?_;subst q;refine ab fun _ _ q=>?_;subst q;refine ar fun _ q=>?_;subst q;refine ah fun _ q=>?_;subst q;refine ab fun _ _ q=>?_;subst q;refine ar fun _ q=>?_;subst q;refine ah fun _ q=>?_;subst q;refine ab fun _ _ q=>?_;subst q;refine ar fun _ q=>?_;subst q;refine bw fun _ q=>?_;subst q;refine aE fun q=>?_;subst q;refine ab fun _ _ q=>?_;subst q;refine ba fun _ q=>?_;subst q;refine ab fun _ _ q=>?_;subst q;refine dj fun q=>?_;subst q;refine aE fun q=>?_;subst q;refine ab fun _ _ q=>?_;subst q;refine ba fun _ q=>?_;subst q;refine ab fun _ _ q=>?_;subst q;refine ar fun _ q=>?_;subst q;refine ah fun _ q=>?_;subst q;refine ab fun _ _ q=>?_;subst q;refine ar fun _ q=>?_;subst q;refine ah fun _ q=>?_;subst q;refine ab fun _ _ q=>?_;subst q;refine ar fun _ q=>?_;subst q;refine bR fun _ q=>?_;subst q;refine ab fun _ _ q=>?_;subst q;refine bV fun _ q=>?_;subst q;refine ab fun _ _ q=>?_;subst q;refine ic fun q=>?_;subst q;refine aE fun q=>?_;subst q;refine ab fun _ _ q=>?_;subst q;refine bY fun _ q=>?_;subst q;refine aE fun q=>?_;subst q;exact h ⟨_,_,_,_,_,_,_,_,_,_,_,_,_⟩ rfl
structure j7 where
 tk:List Da
 ps:Int
 en:Int
 aT:Int
 er:Int
 ne:Int
 tt:Int
 nd:List Da
 vk:Int
 vn:Int
 vs:List Nat
 vl:Nat
 il:List Da
def j7.hp (c:j7):List Ob:=[.box [.p (.slice 4 c.tk),.p (.int .i64 c.ps),.p (.int .i64 c.en),.p (.int .i64 c.aT),.p (.int .i64 c.er),.p (.int .i64 c.ne),.p (.int .i64 c.tt),.p (.slice 8 c.nd)],.box [.box 0 0],.box [.p (.int .i64 c.vk),.p (.int .i64 c.vn),.p (.str c.vs),.sl .nil 1 [],.arr 3 0 c.vl 1],.arr c.il]
noncomputable def xc (o:List Ob)(k:j7→R):R:=af o fun a1 r2=>cI a1 fun l3=>af l3 fun d4 l5=>dP d4 fun x6=>hY 4 x6 fun tk=>af l5 fun d7 l8=>dP d7 fun x9=>au .i64 x9 fun ps=>af l8 fun d10 l11=>dP d10 fun x12=>au .i64 x12 fun en=>af l11 fun d13 l14=>dP d13 fun x15=>au .i64 x15 fun aT=>af l14 fun d16 l17=>dP d16 fun x18=>au .i64 x18 fun er=>af l17 fun d19 l20=>dP d19 fun x21=>au .i64 x21 fun ne=>af l20 fun d22 l23=>dP d22 fun x24=>au .i64 x24 fun tt=>af l23 fun d25 l26=>dP d25 fun x27=>hY 8 x27 fun nd=>aB l26<|af r2 fun a28 r29=>cI a28 fun l30=>af l30 fun d31 l32=>np 0 0 d31<|aB l32<|af r29 fun a33 r34=>cI a33 fun l35=>af l35 fun d36 l37=>dP d36 fun x38=>au .i64 x38 fun vk=>af l37 fun d39 l40=>dP d39 fun x41=>au .i64 x41 fun vn=>af l40 fun d42 l43=>dP d42 fun x44=>cC x44 fun vs=>af l43 fun d45 l46=>IN 1 d45<|af l46 fun d47 l48=>iB 3 1 d47 fun vl=>aB l48<|af r34 fun a49 r50=>gL a49 fun il=>aB r50<|k ⟨tk,ps,en,aT,er,ne,tt,nd,vk,vn,vs,vl,il⟩
theorem KP {o:List Ob}{k:j7→R}{Z:R}(h:∀c:j7,o=c.hp→Le (k c) Z):Le (xc o k) Z:=by
 unfold xc;refine ab fun _ _ q=>?_;subst q;refine ba fun _ q=>?_;subst q;refine ab fun _ _ q=>?_;subst q;refine ar fun _ q=>?_;subst q;refine bw fun _ q=>?_;subst q;refine ab fun _ _ q=>?_;subst q;refine ar fun _ q=>?_;subst q;refine ah fun _ q=>?_;subst q;refine ab fun _ _ q=>?_;subst q;refine ar fun _ q=>?_;subst q;refine ah fun _ q=>?_;subst q;refine ab fun _ _ q=>?_;subst q;refine ar fun _ q=>?_;subst q;refine ah fun _ q=>?_;subst q;refine ab fun _ _ q=>?_;subst q;refine ar fun _ q=>?_;subst q;refine ah fun _ q=>?_;subst q;refine ab fun _ _ q=>?_;subst q;refine ar fun _ q=>?_;subst q;refine ah fun _ q=>?_;subst q;refine ab fun _ _ q=>?_;subst q;refine ar fun _ q=>?_;subst q;refine ah fun _ q=>?_;subst q;refine ab fun _ _ q=>?_;subst q;refine ar fun _ q=>?_;subst q;refine bw fun _ q=>?_;subst q;refine aE fun q=>?_;subst q;refine ab fun _ _ q=>?_;subst q;refine ba fun _ q=>?_;subst q;refine ab fun _ _ q=>?_;subst q;refine dj fun q=>?_;subst q;refine aE fun q=>?_;subst q;refine ab fun _ _ q=>?_;subst q;refine ba fun _ q=>?_;subst q;refine ab fun _ _ q=>?_;subst q;refine ar fun _ q=>?_;subst q;refine ah fun _ q=>?_;subst q;refine ab fun _ _ q=>?_;subst q;refine ar fun _ q=>?_;subst q;refine ah fun _ q=>?_;subst q;refine ab fun _ _ q=>?_;subst q;refine ar fun _ q=>?_;subst q;refine bR fun _ q=>?_;subst q;refine ab fun _ _ q=>?_;subst q;refine ic fun q=>?_;subst q;refine ab fun _ _ q=>?_;subst q;refine bV fun _ q=>?_;subst q;refine aE fun q=>?_;subst q;refine ab fun _ _ q=>?_;subst q;refine bY fun _ q=>?_;subst q;refine aE fun q=>?_;subst q;exact h ⟨_,_,_,_,_,_,_,_,_,_,_,_,_⟩ rfl
structure y9 where
 tk:List Da
 ps:Int
 en:Int
 aT:Int
 er:Int
 ne:Int
 tt:Int
 nd:List Da
 mn:List Nat
 mp:Nat
 mr:Int
 pl:List Da
def y9.hp (c:y9):List Ob:=[.box [.p (.slice 4 c.tk),.p (.int .i64 c.ps),.p (.int .i64 c.en),.p (.int .i64 c.aT),.p (.int .i64 c.er),.p (.int .i64 c.ne),.p (.int .i64 c.tt),.p (.slice 8 c.nd)],.box [.box 0 0],.box [.p (.str c.mn),.arr 3 0 c.mp 2,.p (.int .i64 c.mr),.sl .nil 8 []],.arr c.pl]
noncomputable def D6 (o:List Ob)(k:y9→R):R:=af o fun a1 r2=>cI a1 fun l3=>af l3 fun d4 l5=>dP d4 fun x6=>hY 4 x6 fun tk=>af l5 fun d7 l8=>dP d7 fun x9=>au .i64 x9 fun ps=>af l8 fun d10 l11=>dP d10 fun x12=>au .i64 x12 fun en=>af l11 fun d13 l14=>dP d13 fun x15=>au .i64 x15 fun aT=>af l14 fun d16 l17=>dP d16 fun x18=>au .i64 x18 fun er=>af l17 fun d19 l20=>dP d19 fun x21=>au .i64 x21 fun ne=>af l20 fun d22 l23=>dP d22 fun x24=>au .i64 x24 fun tt=>af l23 fun d25 l26=>dP d25 fun x27=>hY 8 x27 fun nd=>aB l26<|af r2 fun a28 r29=>cI a28 fun l30=>af l30 fun d31 l32=>np 0 0 d31<|aB l32<|af r29 fun a33 r34=>cI a33 fun l35=>af l35 fun d36 l37=>dP d36 fun x38=>cC x38 fun mn=>af l37 fun d39 l40=>iB 3 2 d39 fun mp=>af l40 fun d41 l42=>dP d41 fun x43=>au .i64 x43 fun mr=>af l42 fun d44 l45=>IN 8 d44<|aB l45<|af r34 fun a46 r47=>gL a46 fun pl=>aB r47<|k ⟨tk,ps,en,aT,er,ne,tt,nd,mn,mp,mr,pl⟩
theorem OT {o:List Ob}{k:y9→R}{Z:R}(h:∀c:y9,o=c.hp→Le (k c) Z):Le (D6 o k) Z:=by
 unfold D6;refine ab fun _ _ q=>?_;subst q;refine ba fun _ q=>?_;subst q;refine ab fun _ _ q=>?_;subst q;refine ar fun _ q=>?_;subst q;refine bw fun _ q=>?_;subst q;refine ab fun _ _ q=>?_;subst q;refine ar fun _ q=>?_;subst q;refine ah fun _ q=>?_;subst q;refine ab fun _ _ q=>?_;subst q;refine ar fun _ q=>?_;subst q;refine ah fun _ q=>?_;subst q;refine ab fun _ _ q=>?_;subst q;refine ar fun _ q=>?_;subst q;refine ah fun _ q=>?_;subst q;refine ab fun _ _ q=>?_;subst q;refine ar fun _ q=>?_;subst q;refine ah fun _ q=>?_;subst q;refine ab fun _ _ q=>?_;subst q;refine ar fun _ q=>?_;subst q;refine ah fun _ q=>?_;subst q;refine ab fun _ _ q=>?_;subst q;refine ar fun _ q=>?_;subst q;refine ah fun _ q=>?_;subst q;refine ab fun _ _ q=>?_;subst q;refine ar fun _ q=>?_;subst q;refine bw fun _ q=>?_;subst q;refine aE fun q=>?_;subst q;refine ab fun _ _ q=>?_;subst q;refine ba fun _ q=>?_;subst q;refine ab fun _ _ q=>?_;subst q;refine dj fun q=>?_;subst q;refine aE fun q=>?_;subst q;refine ab fun _ _ q=>?_;subst q;refine ba fun _ q=>?_;subst q;refine ab fun _ _ q=>?_;subst q;refine ar fun _ q=>?_;subst q;refine bR fun _ q=>?_;subst q;refine ab fun _ _ q=>?_;subst q;refine bV fun _ q=>?_;subst q;refine ab fun _ _ q=>?_;subst q;refine ar fun _ q=>?_;subst q;refine ah fun _ q=>?_;subst q;refine ab fun _ _ q=>?_;subst q;refine ic fun q=>?_;subst q;refine aE fun q=>?_;subst q;refine ab fun _ _ q=>?_;subst q;refine bY fun _ q=>?_;subst q;refine aE fun q=>?_;subst q;exact h ⟨_,_,_,_,_,_,_,_,_,_,_,_⟩ rfl
structure Zd where
 vk:Int
 vn:Int
 vs:List Nat
 vi:Nat
 il:List Da
 tk:List Da
 ps:Int
 en:Int
 aT:Int
 er:Int
 ne:Int
 tt:Int
 nd:Nat
 no:List Da
def Zd.hp (c:Zd):List Ob:=[.box [.p (.int .i64 c.vk),.p (.int .i64 c.vn),.p (.str c.vs),.arr 1 0 c.vi 1,.sl .nil 1 []],.arr c.il,.box [.box 3 0],.box [.p (.slice 4 c.tk),.p (.int .i64 c.ps),.p (.int .i64 c.en),.p (.int .i64 c.aT),.p (.int .i64 c.er),.p (.int .i64 c.ne),.p (.int .i64 c.tt),.arr 4 0 c.nd 8],.arr c.no]
structure W8 where
 vk:Int
 vn:Int
 vs:List Nat
 vi:Nat
 tk:List Da
 ps:Int
 en:Int
 aT:Int
 er:Int
 ne:Int
 tt:Int
 nd:Nat
 no:List Da
 il:List Da
def W8.hp (c:W8):List Ob:=[.box [.p (.int .i64 c.vk),.p (.int .i64 c.vn),.p (.str c.vs),.arr 5 0 c.vi 1,.sl .nil 1 []],.dead,.box [.box 3 0],.box [.p (.slice 4 c.tk),.p (.int .i64 c.ps),.p (.int .i64 c.en),.p (.int .i64 c.aT),.p (.int .i64 c.er),.p (.int .i64 c.ne),.p (.int .i64 c.tt),.arr 4 0 c.nd 8],.arr c.no,.arr c.il]
noncomputable def OJ (o:List Ob)(k:W8→R):R:=af o fun a1 r2=>cI a1 fun l3=>af l3 fun d4 l5=>dP d4 fun x6=>au .i64 x6 fun vk=>af l5 fun d7 l8=>dP d7 fun x9=>au .i64 x9 fun vn=>af l8 fun d10 l11=>dP d10 fun x12=>cC x12 fun vs=>af l11 fun d13 l14=>iB 5 1 d13 fun vi=>af l14 fun d15 l16=>IN 1 d15<|aB l16<|af r2 fun a17 r18=>rr a17<|af r18 fun a19 r20=>cI a19 fun l21=>af l21 fun d22 l23=>np 3 0 d22<|aB l23<|af r20 fun a24 r25=>cI a24 fun l26=>af l26 fun d27 l28=>dP d27 fun x29=>hY 4 x29 fun tk=>af l28 fun d30 l31=>dP d30 fun x32=>au .i64 x32 fun ps=>af l31 fun d33 l34=>dP d33 fun x35=>au .i64 x35 fun en=>af l34 fun d36 l37=>dP d36 fun x38=>au .i64 x38 fun aT=>af l37 fun d39 l40=>dP d39 fun x41=>au .i64 x41 fun er=>af l40 fun d42 l43=>dP d42 fun x44=>au .i64 x44 fun ne=>af l43 fun d45 l46=>dP d45 fun x47=>au .i64 x47 fun tt=>af l46 fun d48 l49=>iB 4 8 d48 fun nd=>aB l49<|af r25 fun a50 r51=>gL a50 fun no=>af r51 fun a52 r53=>gL a52 fun il=>aB r53<|k ⟨vk,vn,vs,vi,tk,ps,en,aT,er,ne,tt,nd,no,il⟩
theorem OK {o:List Ob}{k:W8→R}{Z:R}(h:∀c:W8,o=c.hp→Le (k c) Z):Le (OJ o k) Z:=by
 unfold OJ;refine ab fun _ _ q=>?_;subst q;refine ba fun _ q=>?_;subst q;refine ab fun _ _ q=>?_;subst q;refine ar fun _ q=>?_;subst q;refine ah fun _ q=>?_;subst q;refine ab fun _ _ q=>?_;subst q;refine ar fun _ q=>?_;subst q;refine ah fun _ q=>?_;subst q;refine ab fun _ _ q=>?_;subst q;refine ar fun _ q=>?_;subst q;refine bR fun _ q=>?_;subst q;refine ab fun _ _ q=>?_;subst q;refine bV fun _ q=>?_;subst q;refine ab fun _ _ q=>?_;subst q;refine ic fun q=>?_;subst q;refine aE fun q=>?_;subst q;refine ab fun _ _ q=>?_;subst q;refine hM fun q=>?_;subst q;refine ab fun _ _ q=>?_;subst q;refine ba fun _ q=>?_;subst q;refine ab fun _ _ q=>?_;subst q;refine dj fun q=>?_;subst q;refine aE fun q=>?_;subst q;refine ab fun _ _ q=>?_;subst q;refine ba fun _ q=>?_;subst q;refine ab fun _ _ q=>?_;subst q;refine ar fun _ q=>?_;subst q;refine bw fun _ q=>?_;subst q;refine ab fun _ _ q=>?_;subst q;refine ar fun _ q=>?_;subst q;refine ah fun _ q=>?_;subst q;refine ab fun _ _ q=>?_;subst q;refine ar fun _ q=>?_;subst q;refine ah fun _ q=>?_;subst q;refine ab fun _ _ q=>?_;subst q;refine ar fun _ q=>?_;subst q;refine ah fun _ q=>?_;subst q;refine ab fun _ _ q=>?_;subst q;refine ar fun _ q=>?_;subst q;refine ah fun _ q=>?_;subst q;refine ab fun _ _ q=>?_;subst q;refine ar fun _ q=>?_;subst q;refine ah fun _ q=>?_;subst q;refine ab fun _ _ q=>?_;subst q;refine ar fun _ q=>?_;subst q;refine ah fun _ q=>?_;subst q;refine ab fun _ _ q=>?_;subst q;refine bV fun _ q=>?_;subst q;refine aE fun q=>?_;subst q;refine ab fun _ _ q=>?_;subst q;refine bY fun _ q=>?_;subst q;refine ab fun _ _ q=>?_;subst q;refine bY fun _ q=>?_;subst q;refine aE fun q=>?_;subst q;exact h ⟨_,_,_,_,_,_,_,_,_,_,_,_,_,_⟩ rfl
structure Rf where
 vk:Int
 vn:Int
 vs:List Nat
 vi:Nat
 il:List Da
 tk:List Da
 ps:Int
 en:Int
 aT:Int
 er:Int
 ne:Int
 tt:Int
 nd:List Da
def Rf.hp (c:Rf):List Ob:=[.box [.p (.int .i64 c.vk),.p (.int .i64 c.vn),.p (.str c.vs),.arr 1 0 c.vi 1,.sl .nil 1 []],.arr c.il,.box [.box 3 0],.box [.p (.slice 4 c.tk),.p (.int .i64 c.ps),.p (.int .i64 c.en),.p (.int .i64 c.aT),.p (.int .i64 c.er),.p (.int .i64 c.ne),.p (.int .i64 c.tt),.p (.slice 8 c.nd)]]
structure Rx where
 vk:Int
 vn:Int
 vs:List Nat
 vi:Nat
 tk:List Da
 ps:Int
 en:Int
 aT:Int
 er:Int
 ne:Int
 tt:Int
 nd:List Da
 il:List Da
def Rx.hp (c:Rx):List Ob:=[.box [.p (.int .i64 c.vk),.p (.int .i64 c.vn),.p (.str c.vs),.arr 4 0 c.vi 1,.sl .nil 1 []],.dead,.box [.box 3 0],.box [.p (.slice 4 c.tk),.p (.int .i64 c.ps),.p (.int .i64 c.en),.p (.int .i64 c.aT),.p (.int .i64 c.er),.p (.int .i64 c.ne),.p (.int .i64 c.tt),.p (.slice 8 c.nd)],.arr c.il]
noncomputable def tR (o:List Ob)(k:Rx→R):R:=af o fun a1 r2=>cI a1 fun l3=>af l3 fun d4 l5=>dP d4 fun x6=>au .i64 x6 fun vk=>af l5 fun d7 l8=>dP d7 fun x9=>au .i64 x9 fun vn=>af l8 fun d10 l11=>dP d10 fun x12=>cC x12 fun vs=>af l11 fun d13 l14=>iB 4 1 d13 fun vi=>af l14 fun d15 l16=>IN 1 d15<|aB l16<|af r2 fun a17 r18=>rr a17<|af r18 fun a19 r20=>cI a19 fun l21=>af l21 fun d22 l23=>np 3 0 d22<|aB l23<|af r20 fun a24 r25=>cI a24 fun l26=>af l26 fun d27 l28=>dP d27 fun x29=>hY 4 x29 fun tk=>af l28 fun d30 l31=>dP d30 fun x32=>au .i64 x32 fun ps=>af l31 fun d33 l34=>dP d33 fun x35=>au .i64 x35 fun en=>af l34 fun d36 l37=>dP d36 fun x38=>au .i64 x38 fun aT=>af l37 fun d39 l40=>dP d39 fun x41=>au .i64 x41 fun er=>af l40 fun d42 l43=>dP d42 fun x44=>au .i64 x44 fun ne=>af l43 fun d45 l46=>dP d45 fun x47=>au .i64 x47 fun tt=>af l46 fun d48 l49=>dP d48 fun x50=>hY 8 x50 fun nd=>aB l49<|af r25 fun a51 r52=>gL a51 fun il=>aB r52<|k ⟨vk,vn,vs,vi,tk,ps,en,aT,er,ne,tt,nd,il⟩
theorem ON {o:List Ob}{k:Rx→R}{Z:R}(h:∀c:Rx,o=c.hp→Le (k c) Z):Le (tR o k) Z:=by
 unfold tR;refine ab fun _ _ q=>?_;subst q;refine ba fun _ q=>?_;subst q;refine ab fun _ _ q=>?_;subst q;refine ar fun _ q=>?_;subst q;refine ah fun _ q=>?_;subst q;refine ab fun _ _ q=>?_;subst q;refine ar fun _ q=>?_;subst q;refine ah fun _ q=>?_;subst q;refine ab fun _ _ q=>?_;subst q;refine ar fun _ q=>?_;subst q;refine bR fun _ q=>?_;subst q;refine ab fun _ _ q=>?_;subst q;refine bV fun _ q=>?_;subst q;refine ab fun _ _ q=>?_;subst q;refine ic fun q=>?_;subst q;refine aE fun q=>?_;subst q;refine ab fun _ _ q=>?_;subst q;refine hM fun q=>?_;subst q;refine ab fun _ _ q=>?_;subst q;refine ba fun _ q=>?_;subst q;refine ab fun _ _ q=>?_;subst q;refine dj fun q=>?_;subst q;refine aE fun q=>?_;subst q;refine ab fun _ _ q=>?_;subst q;refine ba fun _ q=>?_;subst q;refine ab fun _ _ q=>?_;subst q;refine ar fun _ q=>?_;subst q;refine bw fun _ q=>?_;subst q;refine ab fun _ _ q=>?_;subst q;refine ar fun _ q=>?_;subst q;refine ah fun _ q=>?_;subst q;refine ab fun _ _ q=>?_;subst q;refine ar fun _ q=>?_;subst q;refine ah fun _ q=>?_;subst q;refine ab fun _ _ q=>?_;subst q;refine ar fun _ q=>?_;subst q;refine ah fun _ q=>?_;subst q;refine ab fun _ _ q=>?_;subst q;refine ar fun _ q=>?_;subst q;refine ah fun _ q=>?_;subst q;refine ab fun _ _ q=>?_;subst q;refine ar fun _ q=>?_;subst q;refine ah fun _ q=>?_;subst q;refine ab fun _ _ q=>?_;subst q;refine ar fun _ q=>?_;subst q;refine ah fun _ q=>?_;subst q;refine ab fun _ _ q=>?_;subst q;refine ar fun _ q=>?_;subst q;refine bw fun _ q=>?_;subst q;refine aE fun q=>?_;subst q;refine ab fun _ _ q=>?_;subst q;refine bY fun _ q=>?_;subst q;refine aE fun q=>?_;subst q;exact h ⟨_,_,_,_,_,_,_,_,_,_,_,_,_⟩ rfl
structure Ze where
 vk:Int
 vn:Int
 vs:List Nat
 vl:Nat
 il:List Da
 tk:List Da
 ps:Int
 en:Int
 aT:Int
 er:Int
 ne:Int
 tt:Int
 nd:Nat
 no:List Da
def Ze.hp (c:Ze):List Ob:=[.box [.p (.int .i64 c.vk),.p (.int .i64 c.vn),.p (.str c.vs),.sl .nil 1 [],.arr 1 0 c.vl 1],.arr c.il,.box [.box 3 0],.box [.p (.slice 4 c.tk),.p (.int .i64 c.ps),.p (.int .i64 c.en),.p (.int .i64 c.aT),.p (.int .i64 c.er),.p (.int .i64 c.ne),.p (.int .i64 c.tt),.arr 4 0 c.nd 8],.arr c.no]
structure W9 where
 vk:Int
 vn:Int
 vs:List Nat
 vl:Nat
 tk:List Da
 ps:Int
 en:Int
 aT:Int
 er:Int
 ne:Int
 tt:Int
 nd:Nat
 no:List Da
 il:List Da
def W9.hp (c:W9):List Ob:=[.box [.p (.int .i64 c.vk),.p (.int .i64 c.vn),.p (.str c.vs),.sl .nil 1 [],.arr 5 0 c.vl 1],.dead,.box [.box 3 0],.box [.p (.slice 4 c.tk),.p (.int .i64 c.ps),.p (.int .i64 c.en),.p (.int .i64 c.aT),.p (.int .i64 c.er),.p (.int .i64 c.ne),.p (.int .i64 c.tt),.arr 4 0 c.nd 8],.arr c.no,.arr c.il]
noncomputable def OL (o:List Ob)(k:W9→R):R:=af o fun a1 r2=>cI a1 fun l3=>af l3 fun d4 l5=>dP d4 fun x6=>au .i64 x6 fun vk=>af l5 fun d7 l8=>dP d7 fun x9=>au .i64 x9 fun vn=>af l8 fun d10 l11=>dP d10 fun x12=>cC x12 fun vs=>af l11 fun d13 l14=>IN 1 d13<|af l14 fun d15 l16=>iB 5 1 d15 fun vl=>aB l16<|af r2 fun a17 r18=>rr a17<|af r18 fun a19 r20=>cI a19 fun l21=>af l21 fun d22 l23=>np 3 0 d22<|aB l23<|af r20 fun a24 r25=>cI a24 fun l26=>af l26 fun d27 l28=>dP d27 fun x29=>hY 4 x29 fun tk=>af l28 fun d30 l31=>dP d30 fun x32=>au .i64 x32 fun ps=>af l31 fun d33 l34=>dP d33 fun x35=>au .i64 x35 fun en=>af l34 fun d36 l37=>dP d36 fun x38=>au .i64 x38 fun aT=>af l37 fun d39 l40=>dP d39 fun x41=>au .i64 x41 fun er=>af l40 fun d42 l43=>dP d42 fun x44=>au .i64 x44 fun ne=>af l43 fun d45 l46=>dP d45 fun x47=>au .i64 x47 fun tt=>af l46 fun d48 l49=>iB 4 8 d48 fun nd=>aB l49<|af r25 fun a50 r51=>gL a50 fun no=>af r51 fun a52 r53=>gL a52 fun il=>aB r53<|k ⟨vk,vn,vs,vl,tk,ps,en,aT,er,ne,tt,nd,no,il⟩
theorem OM {o:List Ob}{k:W9→R}{Z:R}(h:∀c:W9,o=c.hp→Le (k c) Z):Le (OL o k) Z:=by
 unfold OL;refine ab fun _ _ q=>?_;subst q;refine ba fun _ q=>?_;subst q;refine ab fun _ _ q=>?_;subst q;refine ar fun _ q=>?_;subst q;refine ah fun _ q=>?_;subst q;refine ab fun _ _ q=>?_;subst q;refine ar fun _ q=>?_;subst q;refine ah fun _ q=>?_;subst q;refine ab fun _ _ q=>?_;subst q;refine ar fun _ q=>?_;subst q;refine bR fun _ q=>?_;subst q;refine ab fun _ _ q=>?_;subst q;refine ic fun q=>?_;subst q;refine ab fun _ _ q=>?_;subst q;refine bV fun _ q=>?_;subst q;refine aE fun q=>?_;subst q;refine ab fun _ _ q=>?_;subst q;refine hM fun q=>?_;subst q;refine ab fun _ _ q=>?_;subst q;refine ba fun _ q=>?_;subst q;refine ab fun _ _ q=>?_;subst q;refine dj fun q=>?_;subst q;refine aE fun q=>?_;subst q;refine ab fun _ _ q=>?_;subst q;refine ba fun _ q=>?_;subst q;refine ab fun _ _ q=>?_;subst q;refine ar fun _ q=>?_;subst q;refine bw fun _ q=>?_;subst q;refine ab fun _ _ q=>?_;subst q;refine ar fun _ q=>?_;subst q;refine ah fun _ q=>?_;subst q;refine ab fun _ _ q=>?_;subst q;refine ar fun _ q=>?_;subst q;refine ah fun _ q=>?_;subst q;refine ab fun _ _ q=>?_;subst q;refine ar fun _ q=>?_;subst q;refine ah fun _ q=>?_;subst q;refine ab fun _ _ q=>?_;subst q;refine ar fun _ q=>?_;subst q;refine ah fun _ q=>?_;subst q;refine ab fun _ _ q=>?_;subst q;refine ar fun _ q=>?_;subst q;refine ah fun _ q=>?_;subst q;refine ab fun _ _ q=>?_;subst q;refine ar fun _ q=>?_;subst q;refine ah fun _ q=>?_;subst q;refine ab fun _ _ q=>?_;subst q;refine bV fun _ q=>?_;subst q;refine aE fun q=>?_;subst q;refine ab fun _ _ q=>?_;subst q;refine bY fun _ q=>?_;subst q;refine ab fun _ _ q=>?_;subst q;refine bY fun _ q=>?_;subst q;refine aE fun q=>?_;subst q;exact h ⟨_,_,_,_,_,_,_,_,_,_,_,_,_,_⟩ rfl
structure Rg where
 vk:Int
 vn:Int
 vs:List Nat
 vl:Nat
 il:List Da
 tk:List Da
 ps:Int
 en:Int
 aT:Int
 er:Int
 ne:Int
 tt:Int
 nd:List Da
def Rg.hp (c:Rg):List Ob:=[.box [.p (.int .i64 c.vk),.p (.int .i64 c.vn),.p (.str c.vs),.sl .nil 1 [],.arr 1 0 c.vl 1],.arr c.il,.box [.box 3 0],.box [.p (.slice 4 c.tk),.p (.int .i64 c.ps),.p (.int .i64 c.en),.p (.int .i64 c.aT),.p (.int .i64 c.er),.p (.int .i64 c.ne),.p (.int .i64 c.tt),.p (.slice 8 c.nd)]]
structure Ry where
 vk:Int
 vn:Int
 vs:List Nat
 vl:Nat
 tk:List Da
 ps:Int
 en:Int
 aT:Int
 er:Int
 ne:Int
 tt:Int
 nd:List Da
 il:List Da
def Ry.hp (c:Ry):List Ob:=[.box [.p (.int .i64 c.vk),.p (.int .i64 c.vn),.p (.str c.vs),.sl .nil 1 [],.arr 4 0 c.vl 1],.dead,.box [.box 3 0],.box [.p (.slice 4 c.tk),.p (.int .i64 c.ps),.p (.int .i64 c.en),.p (.int .i64 c.aT),.p (.int .i64 c.er),.p (.int .i64 c.ne),.p (.int .i64 c.tt),.p (.slice 8 c.nd)],.arr c.il]
noncomputable def tS (o:List Ob)(k:Ry→R):R:=af o fun a1 r2=>cI a1 fun l3=>af l3 fun d4 l5=>dP d4 fun x6=>au .i64 x6 fun vk=>af l5 fun d7 l8=>dP d7 fun x9=>au .i64 x9 fun vn=>af l8 fun d10 l11=>dP d10 fun x12=>cC x12 fun vs=>af l11 fun d13 l14=>IN 1 d13<|af l14 fun d15 l16=>iB 4 1 d15 fun vl=>aB l16<|af r2 fun a17 r18=>rr a17<|af r18 fun a19 r20=>cI a19 fun l21=>af l21 fun d22 l23=>np 3 0 d22<|aB l23<|af r20 fun a24 r25=>cI a24 fun l26=>af l26 fun d27 l28=>dP d27 fun x29=>hY 4 x29 fun tk=>af l28 fun d30 l31=>dP d30 fun x32=>au .i64 x32 fun ps=>af l31 fun d33 l34=>dP d33 fun x35=>au .i64 x35 fun en=>af l34 fun d36 l37=>dP d36 fun x38=>au .i64 x38 fun aT=>af l37 fun d39 l40=>dP d39 fun x41=>au .i64 x41 fun er=>af l40 fun d42 l43=>dP d42 fun x44=>au .i64 x44 fun ne=>af l43 fun d45 l46=>dP d45 fun x47=>au .i64 x47 fun tt=>af l46 fun d48 l49=>dP d48 fun x50=>hY 8 x50 fun nd=>aB l49<|af r25 fun a51 r52=>gL a51 fun il=>aB r52<|k ⟨vk,vn,vs,vl,tk,ps,en,aT,er,ne,tt,nd,il⟩
theorem OO {o:List Ob}{k:Ry→R}{Z:R}(h:∀c:Ry,o=c.hp→Le (k c) Z):Le (tS o k) Z:=by
 unfold tS;refine ab fun _ _ q=>?_;subst q;refine ba fun _ q=>?_;subst q;refine ab fun _ _ q=>?_;subst q;refine ar fun _ q=>?_;subst q;refine ah fun _ q=>?_;subst q;refine ab fun _ _ q=>?_;subst q;refine ar fun _ q=>?_;subst q;refine ah fun _ q=>?_;subst q;refine ab fun _ _ q=>?_;subst q;refine ar fun _ q=>?_;subst q;refine bR fun _ q=>?_;subst q;refine ab fun _ _ q=>?_;subst q;refine ic fun q=>?_;subst q;refine ab fun _ _ q=>?_;subst q;refine bV fun _ q=>?_;subst q;refine aE fun q=>?_;subst q;refine ab fun _ _ q=>?_;subst q;refine hM fun q=>?_;subst q;refine ab fun _ _ q=>?_;subst q;refine ba fun _ q=>?_;subst q;refine ab fun _ _ q=>?_;subst q;refine dj fun q=>?_;subst q;refine aE fun q=>?_;subst q;refine ab fun _ _ q=>?_;subst q;refine ba fun _ q=>?_;subst q;refine ab fun _ _ q=>?_;subst q;refine ar fun _ q=>?_;subst q;refine bw fun _ q=>?_;subst q;refine ab fun _ _ q=>?_;subst q;refine ar fun _ q=>?_;subst q;refine ah fun _ q=>?_;subst q;refine ab fun _ _ q=>?_;subst q;refine ar fun _ q=>?_;subst q;refine ah fun _ q=>?_;subst q;refine ab fun _ _ q=>?_;subst q;refine ar fun _ q=>?_;subst q;refine ah fun _ q=>?_;subst q;refine ab fun _ _ q=>?_;subst q;refine ar fun _ q=>?_;subst q;refine ah fun _ q=>?_;subst q;refine ab fun _ _ q=>?_;subst q;refine ar fun _ q=>?_;subst q;refine ah fun _ q=>?_;subst q;refine ab fun _ _ q=>?_;subst q;refine ar fun _ q=>?_;subst q;refine ah fun _ q=>?_;subst q;refine ab fun _ _ q=>?_;subst q;refine ar fun _ q=>?_;subst q;refine bw fun _ q=>?_;subst q;refine aE fun q=>?_;subst q;refine ab fun _ _ q=>?_;subst q;refine bY fun _ q=>?_;subst q;refine aE fun q=>?_;subst q;exact h ⟨_,_,_,_,_,_,_,_,_,_,_,_,_⟩ rfl
structure Xd where
 tk:List Da
 ps:Int
 en:Int
 aT:Int
 er:Int
 ne:Int
 tt:Int
 nd:Nat
 no:List Da
def Xd.hp (c:Xd):List Ob:=[.box [.box 1 0],.box [.p (.slice 4 c.tk),.p (.int .i64 c.ps),.p (.int .i64 c.en),.p (.int .i64 c.aT),.p (.int .i64 c.er),.p (.int .i64 c.ne),.p (.int .i64 c.tt),.arr 2 0 c.nd 8],.arr c.no]
noncomputable def OV (o:List Ob)(k:Xd→R):R:=af o fun a1 r2=>cI a1 fun l3=>af l3 fun d4 l5=>np 1 0 d4<|aB l5<|af r2 fun a6 r7=>cI a6 fun l8=>af l8 fun d9 l10=>dP d9 fun x11=>hY 4 x11 fun tk=>af l10 fun d12 l13=>dP d12 fun x14=>au .i64 x14 fun ps=>af l13 fun d15 l16=>dP d15 fun x17=>au .i64 x17 fun en=>af l16 fun d18 l19=>dP d18 fun x20=>au .i64 x20 fun aT=>af l19 fun d21 l22=>dP d21 fun x23=>au .i64 x23 fun er=>af l22 fun d24 l25=>dP d24 fun x26=>au .i64 x26 fun ne=>af l25 fun d27 l28=>dP d27 fun x29=>au .i64 x29 fun tt=>af l28 fun d30 l31=>iB 2 8 d30 fun nd=>aB l31<|af r7 fun a32 r33=>gL a32 fun no=>aB r33<|k ⟨tk,ps,en,aT,er,ne,tt,nd,no⟩
theorem OW {o:List Ob}{k:Xd→R}{Z:R}(h:∀c:Xd,o=c.hp→Le (k c) Z):Le (OV o k) Z:=by
 unfold OV;refine ab fun _ _ q=>?_;subst q;refine ba fun _ q=>?_;subst q;refine ab fun _ _ q=>?_;subst q;refine dj fun q=>?_;subst q;refine aE fun q=>?_;subst q;refine ab fun _ _ q=>?_;subst q;refine ba fun _ q=>?_;subst q;refine ab fun _ _ q=>?_;subst q;refine ar fun _ q=>?_;subst q;refine bw fun _ q=>?_;subst q;refine ab fun _ _ q=>?_;subst q;refine ar fun _ q=>?_;subst q;refine ah fun _ q=>?_;subst q;refine ab fun _ _ q=>?_;subst q;refine ar fun _ q=>?_;subst q;refine ah fun _ q=>?_;subst q;refine ab fun _ _ q=>?_;subst q;refine ar fun _ q=>?_;subst q;refine ah fun _ q=>?_;subst q;refine ab fun _ _ q=>?_;subst q;refine ar fun _ q=>?_;subst q;refine ah fun _ q=>?_;subst q;refine ab fun _ _ q=>?_;subst q;refine ar fun _ q=>?_;subst q;refine ah fun _ q=>?_;subst q;refine ab fun _ _ q=>?_;subst q;refine ar fun _ q=>?_;subst q;refine ah fun _ q=>?_;subst q;refine ab fun _ _ q=>?_;subst q;refine bV fun _ q=>?_;subst q;refine aE fun q=>?_;subst q;refine ab fun _ _ q=>?_;subst q;refine bY fun _ q=>?_;subst q;refine aE fun q=>?_;subst q;exact h ⟨_,_,_,_,_,_,_,_,_⟩ rfl
structure vd where
 tk:List Da
 ps:Int
 en:Int
 aT:Int
 er:Int
 ne:Int
 tt:Int
 nd:List Da
def vd.hp (c:vd):List Ob:=[.box [.box 1 0],.box [.p (.slice 4 c.tk),.p (.int .i64 c.ps),.p (.int .i64 c.en),.p (.int .i64 c.aT),.p (.int .i64 c.er),.p (.int .i64 c.ne),.p (.int .i64 c.tt),.p (.slice 8 c.nd)]]
noncomputable def tV (o:List Ob)(k:vd→R):R:=af o fun a1 r2=>cI a1 fun l3=>af l3 fun d4 l5=>np 1 0 d4<|aB l5<|af r2 fun a6 r7=>cI a6 fun l8=>af l8 fun d9 l10=>dP d9 fun x11=>hY 4 x11 fun tk=>af l10 fun d12 l13=>dP d12 fun x14=>au .i64 x14 fun ps=>af l13 fun d15 l16=>dP d15 fun x17=>au .i64 x17 fun en=>af l16 fun d18 l19=>dP d18 fun x20=>au .i64 x20 fun aT=>af l19 fun d21 l22=>dP d21 fun x23=>au .i64 x23 fun er=>af l22 fun d24 l25=>dP d24 fun x26=>au .i64 x26 fun ne=>af l25 fun d27 l28=>dP d27 fun x29=>au .i64 x29 fun tt=>af l28 fun d30 l31=>dP d30 fun x32=>hY 8 x32 fun nd=>aB l31<|aB r7<|k ⟨tk,ps,en,aT,er,ne,tt,nd⟩
theorem D8 {o:List Ob}{k:vd→R}{Z:R}(h:∀c:vd,o=c.hp→Le (k c) Z):Le (tV o k) Z:=by
 unfold tV;refine ab fun _ _ q=>?_;subst q;refine ba fun _ q=>?_;subst q;refine ab fun _ _ q=>?_;subst q;refine dj fun q=>?_;subst q;refine aE fun q=>?_;subst q;refine ab fun _ _ q=>?_;subst q;refine ba fun _ q=>?_;subst q;refine ab fun _ _ q=>?_;subst q;refine ar fun _ q=>?_;subst q;refine bw fun _ q=>?_;subst q;refine ab fun _ _ q=>?_;subst q;refine ar fun _ q=>?_;subst q;refine ah fun _ q=>?_;subst q;refine ab fun _ _ q=>?_;subst q;refine ar fun _ q=>?_;subst q;refine ah fun _ q=>?_;subst q;refine ab fun _ _ q=>?_;subst q;refine ar fun _ q=>?_;subst q;refine ah fun _ q=>?_;subst q;refine ab fun _ _ q=>?_;subst q;refine ar fun _ q=>?_;subst q;refine ah fun _ q=>?_;subst q;refine ab fun _ _ q=>?_;subst q;refine ar fun _ q=>?_;subst q;refine ah fun _ q=>?_;subst q;refine ab fun _ _ q=>?_;subst q;refine ar fun _ q=>?_;subst q;refine ah fun _ q=>?_;subst q;refine ab fun _ _ q=>?_;subst q;refine ar fun _ q=>?_;subst q;refine bw fun _ q=>?_;subst q;refine aE fun q=>?_;subst q;refine aE fun q=>?_;subst q;exact h ⟨_,_,_,_,_,_,_,_⟩ rfl
structure Gv where
 tk:List Da
 ps:Int
 en:Int
 aT:Int
 er:Int
 ne:Int
 tt:Int
 nd:Nat
 kl:List Da
 no:List Da
def Gv.hp (c:Gv):List Ob:=[.box [.p (.slice 4 c.tk),.p (.int .i64 c.ps),.p (.int .i64 c.en),.p (.int .i64 c.aT),.p (.int .i64 c.er),.p (.int .i64 c.ne),.p (.int .i64 c.tt),.arr 2 0 c.nd 8],.arr c.kl,.arr c.no]
structure Rh where
 tk:List Da
 ps:Int
 en:Int
 aT:Int
 er:Int
 ne:Int
 tt:Int
 nd:List Da
 mn:List Nat
 mp:Nat
 mr:Int
 pl:List Da
def Rh.hp (c:Rh):List Ob:=[.box [.box 1 0],.box [.p (.slice 4 c.tk),.p (.int .i64 c.ps),.p (.int .i64 c.en),.p (.int .i64 c.aT),.p (.int .i64 c.er),.p (.int .i64 c.ne),.p (.int .i64 c.tt),.p (.slice 8 c.nd)],.box [.p (.str c.mn),.arr 3 0 c.mp 2,.p (.int .i64 c.mr),.sl .nil 8 []],.arr c.pl]
structure Mk where
 tk:List Da
 ps:Int
 en:Int
 aT:Int
 er:Int
 ne:Int
 tt:Int
 nd:Nat
 kl:List Da
 no:List Da
def Mk.hp (c:Mk):List Ob:=[.box [.p (.slice 4 c.tk),.p (.int .i64 c.ps),.p (.int .i64 c.en),.p (.int .i64 c.aT),.p (.int .i64 c.er),.p (.int .i64 c.ne),.p (.int .i64 c.tt),.arr 2 0 c.nd 8],.fz c.kl,.arr c.no]
noncomputable def tU (o:List Ob)(k:Mk→R):R:=af o fun a1 r2=>cI a1 fun l3=>af l3 fun d4 l5=>dP d4 fun x6=>hY 4 x6 fun tk=>af l5 fun d7 l8=>dP d7 fun x9=>au .i64 x9 fun ps=>af l8 fun d10 l11=>dP d10 fun x12=>au .i64 x12 fun en=>af l11 fun d13 l14=>dP d13 fun x15=>au .i64 x15 fun aT=>af l14 fun d16 l17=>dP d16 fun x18=>au .i64 x18 fun er=>af l17 fun d19 l20=>dP d19 fun x21=>au .i64 x21 fun ne=>af l20 fun d22 l23=>dP d22 fun x24=>au .i64 x24 fun tt=>af l23 fun d25 l26=>iB 2 8 d25 fun nd=>aB l26<|af r2 fun a27 r28=>Y4 a27 fun kl=>af r28 fun a29 r30=>gL a29 fun no=>aB r30<|k ⟨tk,ps,en,aT,er,ne,tt,nd,kl,no⟩
theorem OQ {o:List Ob}{k:Mk→R}{Z:R}(h:∀c:Mk,o=c.hp→Le (k c) Z):Le (tU o k) Z:=by
 unfold tU;refine ab fun _ _ q=>?_;subst q;refine ba fun _ q=>?_;subst q;refine ab fun _ _ q=>?_;subst q;refine ar fun _ q=>?_;subst q;refine bw fun _ q=>?_;subst q;refine ab fun _ _ q=>?_;subst q;refine ar fun _ q=>?_;subst q;refine ah fun _ q=>?_;subst q;refine ab fun _ _ q=>?_;subst q;refine ar fun _ q=>?_;subst q;refine ah fun _ q=>?_;subst q;refine ab fun _ _ q=>?_;subst q;refine ar fun _ q=>?_;subst q;refine ah fun _ q=>?_;subst q;refine ab fun _ _ q=>?_;subst q;refine ar fun _ q=>?_;subst q;refine ah fun _ q=>?_;subst q;refine ab fun _ _ q=>?_;subst q;refine ar fun _ q=>?_;subst q;refine ah fun _ q=>?_;subst q;refine ab fun _ _ q=>?_;subst q;refine ar fun _ q=>?_;subst q;refine ah fun _ q=>?_;subst q;refine ab fun _ _ q=>?_;subst q;refine bV fun _ q=>?_;subst q;refine aE fun q=>?_;subst q;refine ab fun _ _ q=>?_;subst q;refine Qv fun _ q=>?_;subst q;refine ab fun _ _ q=>?_;subst q;refine bY fun _ q=>?_;subst q;refine aE fun q=>?_;subst q;exact h ⟨_,_,_,_,_,_,_,_,_,_⟩ rfl
structure Rz where
 tk:List Da
 ps:Int
 en:Int
 aT:Int
 er:Int
 ne:Int
 tt:Int
 nd:List Da
 mn:List Nat
 mp:Nat
 mr:Int
 pl:List Da
def Rz.hp (c:Rz):List Ob:=[.box [.box 1 0],.box [.p (.slice 4 c.tk),.p (.int .i64 c.ps),.p (.int .i64 c.en),.p (.int .i64 c.aT),.p (.int .i64 c.er),.p (.int .i64 c.ne),.p (.int .i64 c.tt),.p (.slice 8 c.nd)],.box [.p (.str c.mn),.arr 4 0 c.mp 2,.p (.int .i64 c.mr),.sl .nil 8 []],.dead,.arr c.pl]
noncomputable def tT (o:List Ob)(k:Rz→R):R:=af o fun a1 r2=>cI a1 fun l3=>af l3 fun d4 l5=>np 1 0 d4<|aB l5<|af r2 fun a6 r7=>cI a6 fun l8=>af l8 fun d9 l10=>dP d9 fun x11=>hY 4 x11 fun tk=>af l10 fun d12 l13=>dP d12 fun x14=>au .i64 x14 fun ps=>af l13 fun d15 l16=>dP d15 fun x17=>au .i64 x17 fun en=>af l16 fun d18 l19=>dP d18 fun x20=>au .i64 x20 fun aT=>af l19 fun d21 l22=>dP d21 fun x23=>au .i64 x23 fun er=>af l22 fun d24 l25=>dP d24 fun x26=>au .i64 x26 fun ne=>af l25 fun d27 l28=>dP d27 fun x29=>au .i64 x29 fun tt=>af l28 fun d30 l31=>dP d30 fun x32=>hY 8 x32 fun nd=>aB l31<|af r7 fun a33 r34=>cI a33 fun l35=>af l35 fun d36 l37=>dP d36 fun x38=>cC x38 fun mn=>af l37 fun d39 l40=>iB 4 2 d39 fun mp=>af l40 fun d41 l42=>dP d41 fun x43=>au .i64 x43 fun mr=>af l42 fun d44 l45=>IN 8 d44<|aB l45<|af r34 fun a46 r47=>rr a46<|af r47 fun a48 r49=>gL a48 fun pl=>aB r49<|k ⟨tk,ps,en,aT,er,ne,tt,nd,mn,mp,mr,pl⟩
theorem OP {o:List Ob}{k:Rz→R}{Z:R}(h:∀c:Rz,o=c.hp→Le (k c) Z):Le (tT o k) Z:=by
 unfold tT;refine ab fun _ _ q=>?_;subst q;refine ba fun _ q=>?_;subst q;refine ab fun _ _ q=>?_;subst q;refine dj fun q=>?_;subst q;refine aE fun q=>?_;subst q;refine ab fun _ _ q=>?_;subst q;refine ba fun _ q=>?_;subst q;refine ab fun _ _ q=>?_;subst q;refine ar fun _ q=>?_;subst q;refine bw fun _ q=>?_;subst q;refine ab fun _ _ q=>?_;subst q;refine ar fun _ q=>?_;subst q;refine ah fun _ q=>?_;subst q;refine ab fun _ _ q=>?_;subst q;refine ar fun _ q=>?_;subst q;refine ah fun _ q=>?_;subst q;refine ab fun _ _ q=>?_;subst q;refine ar fun _ q=>?_;subst q;refine ah fun _ q=>?_;subst q;refine ab fun _ _ q=>?_;subst q;refine ar fun _ q=>?_;subst q;refine ah fun _ q=>?_;subst q;refine ab fun _ _ q=>?_;subst q;refine ar fun _ q=>?_;subst q;refine ah fun _ q=>?_;subst q;refine ab fun _ _ q=>?_;subst q;refine ar fun _ q=>?_;subst q;refine ah fun _ q=>?_;subst q;refine ab fun _ _ q=>?_;subst q;refine ar fun _ q=>?_;subst q;refine bw fun _ q=>?_;subst q;refine aE fun q=>?_;subst q;refine ab fun _ _ q=>?_;subst q;refine ba fun _ q=>?_;subst q;refine ab fun _ _ q=>?_;subst q;refine ar fun _ q=>?_;subst q;refine bR fun _ q=>?_;subst q;refine ab fun _ _ q=>?_;subst q;refine bV fun _ q=>?_;subst q;refine ab fun _ _ q=>?_;subst q;refine ar fun _ q=>?_;subst q;refine ah fun _ q=>?_;subst q;refine ab fun _ _ q=>?_;subst q;refine ic fun q=>?_;subst q;refine aE fun q=>?_;subst q;refine ab fun _ _ q=>?_;subst q;refine hM fun q=>?_;subst q;refine ab fun _ _ q=>?_;subst q;refine bY fun _ q=>?_;subst q;refine aE fun q=>?_;subst q;exact h ⟨_,_,_,_,_,_,_,_,_,_,_,_⟩ rfl
def Y5:Ob→List D| .box cs=>cs|_=>[]
def XB:D→Bool| .arr _ _ _ _=>true|_=>false
def Ri (hi:List Ob):Nat:=bif XB ((Y5 (hi.getD 1 .dead)).headD .junk)then 0 else bif Nat.beq (Y5 (hi.getD 2 .dead)).length 4 then 5 else bif XB ((Y5 (hi.getD 2 .dead)).getD 3 .junk)then(bif Nat.beq hi.length 5 then 1 else 3)else(bif Nat.beq hi.length 5 then 2 else 4)
noncomputable def VM (hi:List Ob)(v:D)(o:List Ob)(k:KV):R:=aZ v fun r=>aB r<|bif Nat.beq (Ri hi) 0 then D7 o fun c=>k (.tup []) c.hp else bif Nat.beq (Ri hi) 1 then BX o fun c=>k (.tup []) c.hp else bif Nat.beq (Ri hi) 2 then BY o fun c=>k (.tup []) c.hp else bif Nat.beq (Ri hi) 3 then xb o fun c=>k (.tup []) c.hp else bif Nat.beq (Ri hi) 4 then xc o fun c=>k (.tup []) c.hp else D6 o fun c=>k (.tup []) c.hp
theorem Sn (hi:List Ob)(v:D)(o:List Ob)(k:KV):Le (VM hi v o k) (k v o):=by
 unfold VM;refine fu fun _ q=>?_;subst q;refine aE fun q=>?_;subst q
 cases Nat.beq (Ri hi) 0<;>simp only[cond_true,cond_false];rotate_left
 ·exact OU fun c q=>by subst q;exact Le.refl _
 cases Nat.beq (Ri hi) 1<;>simp only[cond_true,cond_false];rotate_left
 ·exact KK fun c q=>by subst q;exact Le.refl _
 cases Nat.beq (Ri hi) 2<;>simp only[cond_true,cond_false];rotate_left
 ·exact KN fun c q=>by subst q;exact Le.refl _
 cases Nat.beq (Ri hi) 3<;>simp only[cond_true,cond_false];rotate_left
 ·exact KO fun c q=>by subst q;exact Le.refl _
 cases Nat.beq (Ri hi) 4<;>simp only[cond_true,cond_false];rotate_left
 ·exact KP fun c q=>by subst q;exact Le.refl _
 exact OT fun c q=>by subst q;exact Le.refl _
def Tj:D→Bool| .p .nilif=>true|_=>false
noncomputable def VN (hi:List Ob)(v:D)(o:List Ob)(k:KV):R:=aZ v fun r0=>af r0 fun d0 r1=>af r1 fun d1 r2=>aB r2<|aB o<|iL (Tj d1) (j8 (.p .nilif) d1<|dP d0 fun x0=>au .i64 x0 fun a0=>k (.tup [.p (.int .i64 a0),.p .nilif]) []) (j8 (.iface 149 .junk) d1<|j8 .junk d0<|k (.tup [.junk,.iface 149 .junk]) [])
theorem So (hi:List Ob)(v:D)(o:List Ob)(k:KV):Le (VN hi v o k) (k v o):=by
 unfold VN;refine fu fun _ q=>?_;subst q;refine ab fun d0 _ q=>?_;subst q;refine ab fun d1 _ q=>?_;subst q;refine aE fun q=>?_;subst q;refine aE fun q=>?_;subst q
 refine Le.two (fun _=>?_) (fun _=>?_)
 ·refine sM fun q=>?_;cases q;refine ar fun _ q=>?_;subst q;refine ah fun _ q=>?_;subst q;exact Le.refl _
 ·refine sM fun q=>?_;cases q;refine sM fun q=>?_;cases q;exact Le.refl _
noncomputable def YF (hi:List Ob)(v:D)(o:List Ob)(k:KV):R:=dP v fun x0=>aI x0 fun a0=>jt hi o fun o=>k (.p (.bool a0)) o
theorem VK (hi:List Ob)(v:D)(o:List Ob)(k:KV):Le (YF hi v o k) (k v o):=by
 unfold YF;refine ar fun _ q=>?_;subst q;refine f6 fun _ q=>?_;subst q;exact fO hi o (Le.refl _)
noncomputable def Vy (hi:List Ob)(v:D)(o:List Ob)(k:KV):R:=aZ v fun r0=>af r0 fun d0 r1=>dP d0 fun x0=>cZ x0 fun a0=>af r1 fun d1 r2=>dP d1 fun x1=>au .i64 x1 fun a1=>af r2 fun d2 r3=>dP d2 fun x2=>au .i64 x2 fun a2=>aB r3<|jt hi o fun o=>k (.tup [.p (a0.e),.p (.int .i64 a1),.p (.int .i64 a2)]) o
theorem Sa (hi:List Ob)(v:D)(o:List Ob)(k:KV):Le (Vy hi v o k) (k v o):=by
 unfold Vy;refine fu fun _ q=>?_;subst q;refine ab fun _ _ q=>?_;subst q;refine ar fun _ q=>?_;subst q;refine sN fun _ q=>?_;subst q;refine ab fun _ _ q=>?_;subst q;refine ar fun _ q=>?_;subst q;refine ah fun _ q=>?_;subst q;refine ab fun _ _ q=>?_;subst q;refine ar fun _ q=>?_;subst q;refine ah fun _ q=>?_;subst q;refine aE fun q=>?_;subst q;exact fO hi o (Le.refl _)
noncomputable def Vz (hi:List Ob)(v:D)(o:List Ob)(k:KV):R:=dP v fun x0=>aI x0 fun a0=>io hi o<|k (.p (.bool a0)) hi
theorem Sb (hi:List Ob)(v:D)(o:List Ob)(k:KV):Le (Vz hi v o k) (k v o):=by
 unfold Vz;refine ar fun _ q=>?_;subst q;refine f6 fun _ q=>?_;subst q;exact OI fun q=>by subst q;exact Le.refl _
noncomputable def VA (hi:List Ob)(v:D)(o:List Ob)(k:KV):R:=aZ v fun r0=>af r0 fun d0 r1=>dP d0 fun x0=>hY 4 x0 fun a0=>af r1 fun d1 r2=>dP d1 fun x1=>au .i64 x1 fun a1=>af r2 fun d2 r3=>dP d2 fun x2=>au .i64 x2 fun a2=>aB r3<|jt hi o fun o=>k (.tup [.p (.slice 4 a0),.p (.int .i64 a1),.p (.int .i64 a2)]) o
theorem Sc (hi:List Ob)(v:D)(o:List Ob)(k:KV):Le (VA hi v o k) (k v o):=by
 unfold VA;refine fu fun _ q=>?_;subst q;refine ab fun _ _ q=>?_;subst q;refine ar fun _ q=>?_;subst q;refine bw fun _ q=>?_;subst q;refine ab fun _ _ q=>?_;subst q;refine ar fun _ q=>?_;subst q;refine ah fun _ q=>?_;subst q;refine ab fun _ _ q=>?_;subst q;refine ar fun _ q=>?_;subst q;refine ah fun _ q=>?_;subst q;refine aE fun q=>?_;subst q;exact fO hi o (Le.refl _)
noncomputable def VB (hi:List Ob)(v:D)(o:List Ob)(k:KV):R:=dP v fun x0=>au .i64 x0 fun a0=>jt hi o fun o=>k (.p (.int .i64 a0)) o
theorem Sd (hi:List Ob)(v:D)(o:List Ob)(k:KV):Le (VB hi v o k) (k v o):=by
 unfold VB;refine ar fun _ q=>?_;subst q;refine ah fun _ q=>?_;subst q;exact fO hi o (Le.refl _)
noncomputable def VC (hi:List Ob)(v:D)(o:List Ob)(k:KV):R:=aZ v fun r0=>af r0 fun d0 r1=>dP d0 fun x0=>aL x0 fun a0=>af r1 fun d1 r2=>dP d1 fun x1=>au .i64 x1 fun a1=>af r2 fun d2 r3=>dP d2 fun x2=>au .i64 x2 fun a2=>aB r3<|jt hi o fun o=>k (.tup [.p (a0.e),.p (.int .i64 a1),.p (.int .i64 a2)]) o
theorem Se (hi:List Ob)(v:D)(o:List Ob)(k:KV):Le (VC hi v o k) (k v o):=by
 unfold VC;refine fu fun _ q=>?_;subst q;refine ab fun _ _ q=>?_;subst q;refine ar fun _ q=>?_;subst q;refine jj fun _ q=>?_;subst q;refine ab fun _ _ q=>?_;subst q;refine ar fun _ q=>?_;subst q;refine ah fun _ q=>?_;subst q;refine ab fun _ _ q=>?_;subst q;refine ar fun _ q=>?_;subst q;refine ah fun _ q=>?_;subst q;refine aE fun q=>?_;subst q;exact fO hi o (Le.refl _)
noncomputable def VD (hi:List Ob)(v:D)(o:List Ob)(k:KV):R:=dP v fun x0=>aI x0 fun a0=>bif Nat.beq hi.length 1 then aN o fun c=>k (.p (.bool a0)) c.hp else bif Nat.beq hi.length 2 then az o fun c=>k (.p (.bool a0)) c.hp else k (.p (.bool a0)) o
theorem Sf (hi:List Ob)(v:D)(o:List Ob)(k:KV):Le (VD hi v o k) (k v o):=by
 unfold VD;refine ar fun _ q=>?_;subst q;refine f6 fun _ q=>?_;subst q;cases Nat.beq hi.length 1<;>simp only[cond_true,cond_false]
 rotate_left
 ·exact f7 fun c q=>by subst q;exact Le.refl _
 cases Nat.beq hi.length 2<;>simp only[cond_true,cond_false];rotate_left
 ·exact dX fun c q=>by subst q;exact Le.refl _
 exact Le.refl _
noncomputable def VE (hi:List Ob)(v:D)(o:List Ob)(k:KV):R:=aZ v fun r0=>aB r0<|bif Nat.beq hi.length 1 then aN o fun c=>k (.tup []) c.hp else bif Nat.beq hi.length 2 then az o fun c=>k (.tup []) c.hp else k (.tup []) o
theorem Sg (hi:List Ob)(v:D)(o:List Ob)(k:KV):Le (VE hi v o k) (k v o):=by
 unfold VE;refine fu fun _ q=>?_;subst q;refine aE fun q=>?_;subst q;cases Nat.beq hi.length 1<;>simp only[cond_true,cond_false]
 rotate_left
 ·exact f7 fun c q=>by subst q;exact Le.refl _
 cases Nat.beq hi.length 2<;>simp only[cond_true,cond_false];rotate_left
 ·exact dX fun c q=>by subst q;exact Le.refl _
 exact Le.refl _
noncomputable def VF (hi:List Ob)(v:D)(o:List Ob)(k:KV):R:=dP v fun x0=>bq x0 fun a0=>jt hi o fun o=>k (.p (a0.e)) o
theorem Sh (hi:List Ob)(v:D)(o:List Ob)(k:KV):Le (VF hi v o k) (k v o):=by
 unfold VF;refine ar fun _ q=>?_;subst q;refine ck fun _ q=>?_;subst q;exact fO hi o (Le.refl _)
noncomputable def VG (hi:List Ob)(v:D)(o:List Ob)(k:KV):R:=dP v fun x0=>aL x0 fun a0=>bif Nat.beq hi.length 1 then aN o fun c=>k (.p (a0.e)) c.hp else bif Nat.beq hi.length 2 then az o fun c=>k (.p (a0.e)) c.hp else k (.p (a0.e)) o
theorem Si (hi:List Ob)(v:D)(o:List Ob)(k:KV):Le (VG hi v o k) (k v o):=by
 unfold VG;refine ar fun _ q=>?_;subst q;refine jj fun _ q=>?_;subst q;cases Nat.beq hi.length 1<;>simp only[cond_true,cond_false]
 rotate_left
 ·exact f7 fun c q=>by subst q;exact Le.refl _
 cases Nat.beq hi.length 2<;>simp only[cond_true,cond_false];rotate_left
 ·exact dX fun c q=>by subst q;exact Le.refl _
 exact Le.refl _
noncomputable def VH (hi:List Ob)(v:D)(o:List Ob)(k:KV):R:=dP v fun x0=>cC x0 fun a0=>bif Nat.beq hi.length 1 then aN o fun c=>k (.p (.str a0)) c.hp else bif Nat.beq hi.length 2 then az o fun c=>k (.p (.str a0)) c.hp else k (.p (.str a0)) o
theorem Sj (hi:List Ob)(v:D)(o:List Ob)(k:KV):Le (VH hi v o k) (k v o):=by
 unfold VH;refine ar fun _ q=>?_;subst q;refine bR fun _ q=>?_;subst q;cases Nat.beq hi.length 1<;>simp only[cond_true,cond_false]
 rotate_left
 ·exact f7 fun c q=>by subst q;exact Le.refl _
 cases Nat.beq hi.length 2<;>simp only[cond_true,cond_false];rotate_left
 ·exact dX fun c q=>by subst q;exact Le.refl _
 exact Le.refl _
noncomputable def VI (hi:List Ob)(v:D)(o:List Ob)(k:KV):R:=dP v fun x0=>cd x0 fun a0=>aN o fun c=>k (.p (a0.e)) c.hp
theorem Sk (hi:List Ob)(v:D)(o:List Ob)(k:KV):Le (VI hi v o k) (k v o):=by
 unfold VI;refine ar fun _ q=>?_;subst q;refine dr fun _ q=>?_;subst q;exact f7 fun c q=>by subst q;exact Le.refl _
noncomputable def VJ (hi:List Ob)(v:D)(o:List Ob)(k:KV):R:=dP v fun x0=>cS x0 fun a0=>aN o fun c=>k (.p (a0.e)) c.hp
theorem Sl (hi:List Ob)(v:D)(o:List Ob)(k:KV):Le (VJ hi v o k) (k v o):=by
 unfold VJ;refine ar fun _ q=>?_;subst q;refine mf fun _ q=>?_;subst q;exact f7 fun c q=>by subst q;exact Le.refl _
noncomputable def VL (hi:List Ob)(v:D)(o:List Ob)(k:KV):R:=aZ v fun r0=>af r0 fun d0 r1=>dP d0 fun x0=>au .u8 x0 fun a0=>af r1 fun d1 r2=>dP d1 fun x1=>au .i64 x1 fun a1=>aB r2<|jt hi o fun o=>k (.tup [.p (.int .u8 a0),.p (.int .i64 a1)]) o
theorem Sm (hi:List Ob)(v:D)(o:List Ob)(k:KV):Le (VL hi v o k) (k v o):=by
 unfold VL;refine fu fun _ q=>?_;subst q;refine ab fun _ _ q=>?_;subst q;refine ar fun _ q=>?_;subst q;refine ah fun _ q=>?_;subst q;refine ab fun _ _ q=>?_;subst q;refine ar fun _ q=>?_;subst q;refine ah fun _ q=>?_;subst q;refine aE fun q=>?_;subst q;exact fO hi o (Le.refl _)
noncomputable def N1 (hi:List Ob)(v:D)(o:List Ob)(k:KV):R:=dP v fun x0=>au .i64 x0 fun a0=>bif Nat.beq hi.length 1 then aN o fun c=>k (.p (.int .i64 a0)) c.hp else bif Nat.beq hi.length 2 then az o fun c=>k (.p (.int .i64 a0)) c.hp else k (.p (.int .i64 a0)) o
theorem N2 (hi:List Ob)(v:D)(o:List Ob)(k:KV):Le (N1 hi v o k) (k v o):=by
 unfold N1;refine ar fun _ q=>?_;subst q;refine ah fun _ q=>?_;subst q;cases Nat.beq hi.length 1<;>simp only[cond_true,cond_false]
 rotate_left
 ·exact f7 fun c q=>by subst q;exact Le.refl _
 cases Nat.beq hi.length 2<;>simp only[cond_true,cond_false];rotate_left
 ·exact dX fun c q=>by subst q;exact Le.refl _
 exact Le.refl _
noncomputable def N3 (hi:List Ob)(v:D)(o:List Ob)(k:KV):R:=dP v fun x0=>cn x0 fun a0=>bif Nat.beq hi.length 1 then aN o fun c=>k (.p (a0.e)) c.hp else bif Nat.beq hi.length 2 then az o fun c=>k (.p (a0.e)) c.hp else k (.p (a0.e)) o
theorem N4 (hi:List Ob)(v:D)(o:List Ob)(k:KV):Le (N3 hi v o k) (k v o):=by
 unfold N3;refine ar fun _ q=>?_;subst q;refine dt fun _ q=>?_;subst q;cases Nat.beq hi.length 1<;>simp only[cond_true,cond_false]
 rotate_left
 ·exact f7 fun c q=>by subst q;exact Le.refl _
 cases Nat.beq hi.length 2<;>simp only[cond_true,cond_false];rotate_left
 ·exact dX fun c q=>by subst q;exact Le.refl _
 exact Le.refl _
noncomputable def N5 (hi:List Ob)(v:D)(o:List Ob)(k:KV):R:=dP v fun x0=>aI x0 fun a0=>tV o fun c=>k (.p (.bool a0)) c.hp
theorem N6 (hi:List Ob)(v:D)(o:List Ob)(k:KV):Le (N5 hi v o k) (k v o):=by
 unfold N5;refine ar fun _ q=>?_;subst q;refine f6 fun _ q=>?_;subst q;exact D8 fun c q=>by subst q;exact Le.refl _
noncomputable def N7 (hi:List Ob)(v:D)(o:List Ob)(k:KV):R:=aZ v fun r0=>aB r0<|tT o fun c=>k (.tup []) c.hp
theorem N8 (hi:List Ob)(v:D)(o:List Ob)(k:KV):Le (N7 hi v o k) (k v o):=by
 unfold N7;refine fu fun _ q=>?_;subst q;refine aE fun q=>?_;subst q;exact OP fun c q=>by subst q;exact Le.refl _
noncomputable def N9 (hi:List Ob)(v:D)(o:List Ob)(k:KV):R:=dP v fun x0=>au .i64 x0 fun a0=>az o fun c=>k (.p (.int .i64 a0)) c.hp
theorem Oc (hi:List Ob)(v:D)(o:List Ob)(k:KV):Le (N9 hi v o k) (k v o):=by
 unfold N9;refine ar fun _ q=>?_;subst q;refine ah fun _ q=>?_;subst q;exact dX fun c q=>by subst q;exact Le.refl _
noncomputable def Od (hi:List Ob)(v:D)(o:List Ob)(k:KV):R:=dP v fun x0=>aI x0 fun a0=>bif Nat.beq hi.length 2 then tV o fun c=>k (.p (.bool a0)) c.hp else bif Nat.beq hi.length 3 then OV o fun c=>k (.p (.bool a0)) c.hp else k (.p (.bool a0)) o
theorem Oe (hi:List Ob)(v:D)(o:List Ob)(k:KV):Le (Od hi v o k) (k v o):=by
 unfold Od;refine ar fun _ q=>?_;subst q;refine f6 fun _ q=>?_;subst q;cases Nat.beq hi.length 2<;>simp only[cond_true,cond_false]
 rotate_left
 ·exact D8 fun c q=>by subst q;exact Le.refl _
 cases Nat.beq hi.length 3<;>simp only[cond_true,cond_false];rotate_left
 ·exact OW fun c q=>by subst q;exact Le.refl _
 exact Le.refl _
noncomputable def Of (hi:List Ob)(v:D)(o:List Ob)(k:KV):R:=aZ v fun r0=>aB r0<|bif Nat.beq hi.length 4 then tR o fun c=>k (.tup []) c.hp else bif Nat.beq hi.length 5 then OJ o fun c=>k (.tup []) c.hp else k (.tup []) o
theorem Og (hi:List Ob)(v:D)(o:List Ob)(k:KV):Le (Of hi v o k) (k v o):=by
 unfold Of;refine fu fun _ q=>?_;subst q;refine aE fun q=>?_;subst q;cases Nat.beq hi.length 4<;>simp only[cond_true,cond_false]
 rotate_left
 ·exact ON fun c q=>by subst q;exact Le.refl _
 cases Nat.beq hi.length 5<;>simp only[cond_true,cond_false];rotate_left
 ·exact OK fun c q=>by subst q;exact Le.refl _
 exact Le.refl _
noncomputable def Oh (hi:List Ob)(v:D)(o:List Ob)(k:KV):R:=aZ v fun r0=>aB r0<|bif Nat.beq hi.length 4 then tS o fun c=>k (.tup []) c.hp else bif Nat.beq hi.length 5 then OL o fun c=>k (.tup []) c.hp else k (.tup []) o
theorem Oi (hi:List Ob)(v:D)(o:List Ob)(k:KV):Le (Oh hi v o k) (k v o):=by
 unfold Oh;refine fu fun _ q=>?_;subst q;refine aE fun q=>?_;subst q;cases Nat.beq hi.length 4<;>simp only[cond_true,cond_false]
 rotate_left
 ·exact OO fun c q=>by subst q;exact Le.refl _
 cases Nat.beq hi.length 5<;>simp only[cond_true,cond_false];rotate_left
 ·exact OM fun c q=>by subst q;exact Le.refl _
 exact Le.refl _
noncomputable def Oj (hi:List Ob)(v:D)(o:List Ob)(k:KV):R:=aZ v fun r0=>aB r0<|az o fun c=>k (.tup []) c.hp
theorem Ol (hi:List Ob)(v:D)(o:List Ob)(k:KV):Le (Oj hi v o k) (k v o):=by
 unfold Oj;refine fu fun _ q=>?_;subst q;refine aE fun q=>?_;subst q;exact dX fun c q=>by subst q;exact Le.refl _
noncomputable def Om (hi:List Ob)(v:D)(o:List Ob)(k:KV):R:=dP v fun x0=>au .i64 x0 fun a0=>bif Nat.beq hi.length 2 then az o fun c=>k (.p (.int .i64 a0)) c.hp else bif Nat.beq hi.length 3 then tU o fun c=>k (.p (.int .i64 a0)) c.hp else k (.p (.int .i64 a0)) o
theorem On (hi:List Ob)(v:D)(o:List Ob)(k:KV):Le (Om hi v o k) (k v o):=by
 unfold Om;refine ar fun _ q=>?_;subst q;refine ah fun _ q=>?_;subst q;cases Nat.beq hi.length 2<;>simp only[cond_true,cond_false]
 rotate_left
 ·exact dX fun c q=>by subst q;exact Le.refl _
 cases Nat.beq hi.length 3<;>simp only[cond_true,cond_false];rotate_left
 ·exact OQ fun c q=>by subst q;exact Le.refl _
 exact Le.refl _
noncomputable def Oo (hi:List Ob)(v:D)(o:List Ob)(k:KV):R:=dP v fun x0=>hY 1 x0 fun a0=>az o fun c=>k (.p (.slice 1 a0)) c.hp
theorem Oq (hi:List Ob)(v:D)(o:List Ob)(k:KV):Le (Oo hi v o k) (k v o):=by
 unfold Oo;refine ar fun _ q=>?_;subst q;refine bw fun _ q=>?_;subst q;exact dX fun c q=>by subst q;exact Le.refl _
noncomputable def Ot (hi:List Ob)(v:D)(o:List Ob)(k:KV):R:=dP v fun x0=>aI x0 fun a0=>az o fun c=>k (.p (.bool a0)) c.hp
theorem Ou (hi:List Ob)(v:D)(o:List Ob)(k:KV):Le (Ot hi v o k) (k v o):=by
 unfold Ot;refine ar fun _ q=>?_;subst q;refine f6 fun _ q=>?_;subst q;exact dX fun c q=>by subst q;exact Le.refl _
noncomputable def Ov (hi:List Ob)(v:D)(o:List Ob)(k:KV):R:=aZ v fun r0=>aB r0<|D5 o fun c=>k (.tup []) c.hp
theorem Ow (hi:List Ob)(v:D)(o:List Ob)(k:KV):Le (Ov hi v o k) (k v o):=by
 unfold Ov;refine fu fun _ q=>?_;subst q;refine aE fun q=>?_;subst q;exact OS fun c q=>by subst q;exact Le.refl _
noncomputable def Up (f:Nat)(hi:List Ob)(v:D)(o:List Ob)(k:KV):R:=bif Nat.beq f 104 then VM hi v o k else bif Nat.beq f 97 then VN hi v o k else bif bX f [7,16,30,47,64,66,68,69,78,79,91,93,94,96,99,115]then YF hi v o k else bif bX f [11,14]then Vy hi v o k else bif bX f [12,29,31,32,33,34,35,36,37,38,39]then Vz hi v o k else bif bX f [13]then VA hi v o k else bif bX f [40,46,55,65,67,72,95,114]then VB hi v o k else bif bX f [41,70,71]then VC hi v o k else bif bX f [42,43,100]then VD hi v o k else bif bX f [44,74]then VE hi v o k else bif bX f [45]then VF hi v o k else bif bX f [73,101]then VG hi v o k else bif bX f [75]then VH hi v o k else bif bX f [76]then VI hi v o k else bif bX f [77]then VJ hi v o k else bif bX f [98]then VL hi v o k else bif bX f [102,118]then N1 hi v o k else bif bX f [103]then N3 hi v o k else bif bX f [105]then N5 hi v o k else bif bX f [106]then N7 hi v o k else bif bX f [107,122,131,132,133,134,135,146,147,155,156,159,160,161,162]then N9 hi v o k else bif bX f [116,119]then Od hi v o k else bif bX f [117]then Of hi v o k else bif bX f [120]then Oh hi v o k else bif bX f [121,124]then Oj hi v o k else bif bX f [123]then Om hi v o k else bif bX f [136,145]then Oo hi v o k else bif bX f [153]then Ot hi v o k else bif bX f [154]then Ov hi v o k else k v o
noncomputable def UA (z:D)(x:Da)(k:Da→R):R:=match z with| .p (.int i _)=>au i x fun n=>k (.int i n)| .p (.bool _)=>aI x fun b=>k (.bool b)| .p (.agg cs)=>k x|_=>k x
noncomputable def Yi (z:Nat)(x:Da)(k:Da→R):R:=bif Nat.beq z 8 then cu x fun t=>k t.e else bif Nat.beq z 3 then bq x fun t=>k t.e else bif Nat.beq z 7 then cd x fun t=>k t.e else bif Nat.beq z 2 then cE x fun t=>k t.e else bif Nat.beq z 5 then cn x fun t=>k t.e else bif Nat.beq z 1 then au .i64 x fun i=>k (.int .i64 i)else bif Nat.beq z 0 then au .i64 x fun i=>k (.int .i64 i)else k x
noncomputable def YT (z:Nat)(x:Da)(k:Da→R):R:=bif Nat.beq z 8 then cu x fun t=>k t.e else bif Nat.beq z 3 then bq x fun t=>k t.e else bif Nat.beq z 7 then cd x fun t=>k t.e else bif Nat.beq z 2 then cE x fun t=>k t.e else bif Nat.beq z 5 then cn x fun t=>k t.e else bif Nat.beq z 1 then cC x fun s=>k (.str s)else bif Nat.beq z 0 then cC x fun s=>k (.str s)else k x
noncomputable def V3 (z:Nat)(x:Da)(k:Da→R):R:=bif Nat.beq z 8 then cu x fun t=>k t.e else bif Nat.beq z 3 then bq x fun t=>k t.e else bif Nat.beq z 7 then cd x fun t=>k t.e else bif Nat.beq z 2 then cE x fun t=>k t.e else bif Nat.beq z 5 then cn x fun t=>k t.e else bif Nat.beq z 4 then aL x fun t=>k t.e else bif Nat.beq z 1 then cC x fun s=>k (.str s)else bif Nat.beq z 0 then cC x fun s=>k (.str s)else k x
noncomputable def YR (z:Nat)(x:Da)(k:Da→R):R:=bif Nat.beq z 8 then cu x fun t=>k t.e else bif Nat.beq z 3 then bq x fun t=>k t.e else bif Nat.beq z 7 then cd x fun t=>k t.e else bif Nat.beq z 2 then cE x fun t=>k t.e else bif Nat.beq z 5 then cn x fun t=>k t.e else bif Nat.beq z 1008 then cu x fun t=>k t.e else bif Nat.beq z 1001 then au .i64 x fun i=>k (.int .i64 i)else bif Nat.beq z 1 then au .i64 x fun i=>k (.int .i64 i)else bif Nat.beq z 0 then au .i64 x fun i=>k (.int .i64 i)else k x
noncomputable def YS (z:Nat)(x:Da)(k:Da→R):R:=bif Nat.beq z 8 then cu x fun t=>k t.e else bif Nat.beq z 3 then bq x fun t=>k t.e else bif Nat.beq z 7 then cd x fun t=>k t.e else bif Nat.beq z 2 then cE x fun t=>k t.e else bif Nat.beq z 5 then cn x fun t=>k t.e else bif Nat.beq z 4 then cS x fun t=>k t.e else bif Nat.beq z 1 then au .i64 x fun i=>k (.int .i64 i)else bif Nat.beq z 0 then au .i64 x fun i=>k (.int .i64 i)else k x
noncomputable def ZF:jE:=⟨Yi,Up,UA,false,true,false⟩
noncomputable def YO:jE:=⟨Yi,Up,UA,false,false,false⟩
noncomputable def YQ:jE:=⟨YT,Up,UA,false,false,false⟩
noncomputable def Xo:jE:=⟨V3,Up,UA,false,false,false⟩
noncomputable def YN:jE:=⟨YR,Up,UA,false,false,true⟩
noncomputable def YP:jE:=⟨YS,Up,UA,false,false,false⟩
theorem Pi (z:Nat)(x:Da)(k:Da→R):Le (Yi z x k) (k x):=by
 unfold Yi;cases Nat.beq z 8<;>simp only[cond_true,cond_false];rotate_left
 ·exact ed fun _ q=>by subst q;exact Le.refl _
 cases Nat.beq z 3<;>simp only[cond_true,cond_false];rotate_left
 ·exact ck fun _ q=>by subst q;exact Le.refl _
 cases Nat.beq z 7<;>simp only[cond_true,cond_false];rotate_left
 ·exact dr fun _ q=>by subst q;exact Le.refl _
 cases Nat.beq z 2<;>simp only[cond_true,cond_false];rotate_left
 ·exact eD fun _ q=>by subst q;exact Le.refl _
 cases Nat.beq z 5<;>simp only[cond_true,cond_false];rotate_left
 ·exact dt fun _ q=>by subst q;exact Le.refl _
 cases Nat.beq z 1<;>simp only[cond_true,cond_false];cases Nat.beq z 0<;>simp only[cond_true,cond_false]
 ·exact Le.refl _
 all_goals exact ah fun _ q=>by subst q;exact Le.refl _
theorem V2 (z:Nat)(x:Da)(k:Da→R):Le (YT z x k) (k x):=by
 unfold YT;cases Nat.beq z 8<;>simp only[cond_true,cond_false];rotate_left
 ·exact ed fun _ q=>by subst q;exact Le.refl _
 cases Nat.beq z 3<;>simp only[cond_true,cond_false];rotate_left
 ·exact ck fun _ q=>by subst q;exact Le.refl _
 cases Nat.beq z 7<;>simp only[cond_true,cond_false];rotate_left
 ·exact dr fun _ q=>by subst q;exact Le.refl _
 cases Nat.beq z 2<;>simp only[cond_true,cond_false];rotate_left
 ·exact eD fun _ q=>by subst q;exact Le.refl _
 cases Nat.beq z 5<;>simp only[cond_true,cond_false];rotate_left
 ·exact dt fun _ q=>by subst q;exact Le.refl _
 cases Nat.beq z 1<;>simp only[cond_true,cond_false];cases Nat.beq z 0<;>simp only[cond_true,cond_false]
 ·exact Le.refl _
 all_goals exact bR fun _ q=>by subst q;exact Le.refl _
theorem SP (z:Nat)(x:Da)(k:Da→R):Le (V3 z x k) (k x):=by
 unfold V3;cases Nat.beq z 8<;>simp only[cond_true,cond_false];rotate_left
 ·exact ed fun _ q=>by subst q;exact Le.refl _
 cases Nat.beq z 3<;>simp only[cond_true,cond_false];rotate_left
 ·exact ck fun _ q=>by subst q;exact Le.refl _
 cases Nat.beq z 7<;>simp only[cond_true,cond_false];rotate_left
 ·exact dr fun _ q=>by subst q;exact Le.refl _
 cases Nat.beq z 2<;>simp only[cond_true,cond_false];rotate_left
 ·exact eD fun _ q=>by subst q;exact Le.refl _
 cases Nat.beq z 5<;>simp only[cond_true,cond_false];rotate_left
 ·exact dt fun _ q=>by subst q;exact Le.refl _
 cases Nat.beq z 4<;>simp only[cond_true,cond_false];rotate_left
 ·exact jj fun _ q=>by subst q;exact Le.refl _
 cases Nat.beq z 1<;>simp only[cond_true,cond_false];cases Nat.beq z 0<;>simp only[cond_true,cond_false]
 ·exact Le.refl _
 all_goals exact bR fun _ q=>by subst q;exact Le.refl _
theorem V0 (z:Nat)(x:Da)(k:Da→R):Le (YR z x k) (k x):=by
 unfold YR;cases Nat.beq z 8<;>simp only[cond_true,cond_false];rotate_left
 ·exact ed fun _ q=>by subst q;exact Le.refl _
 cases Nat.beq z 3<;>simp only[cond_true,cond_false];rotate_left
 ·exact ck fun _ q=>by subst q;exact Le.refl _
 cases Nat.beq z 7<;>simp only[cond_true,cond_false];rotate_left
 ·exact dr fun _ q=>by subst q;exact Le.refl _
 cases Nat.beq z 2<;>simp only[cond_true,cond_false];rotate_left
 ·exact eD fun _ q=>by subst q;exact Le.refl _
 cases Nat.beq z 5<;>simp only[cond_true,cond_false];rotate_left
 ·exact dt fun _ q=>by subst q;exact Le.refl _
 cases Nat.beq z 1008<;>simp only[cond_true,cond_false];rotate_left
 ·exact ed fun _ q=>by subst q;exact Le.refl _
 cases Nat.beq z 1001<;>simp only[cond_true,cond_false];rotate_left
 ·exact ah fun _ q=>by subst q;exact Le.refl _
 cases Nat.beq z 1<;>simp only[cond_true,cond_false];cases Nat.beq z 0<;>simp only[cond_true,cond_false]
 ·exact Le.refl _
 all_goals exact ah fun _ q=>by subst q;exact Le.refl _
theorem V1 (z:Nat)(x:Da)(k:Da→R):Le (YS z x k) (k x):=by
 unfold YS;cases Nat.beq z 8<;>simp only[cond_true,cond_false];rotate_left
 ·exact ed fun _ q=>by subst q;exact Le.refl _
 cases Nat.beq z 3<;>simp only[cond_true,cond_false];rotate_left
 ·exact ck fun _ q=>by subst q;exact Le.refl _
 cases Nat.beq z 7<;>simp only[cond_true,cond_false];rotate_left
 ·exact dr fun _ q=>by subst q;exact Le.refl _
 cases Nat.beq z 2<;>simp only[cond_true,cond_false];rotate_left
 ·exact eD fun _ q=>by subst q;exact Le.refl _
 cases Nat.beq z 5<;>simp only[cond_true,cond_false];rotate_left
 ·exact dt fun _ q=>by subst q;exact Le.refl _
 cases Nat.beq z 4<;>simp only[cond_true,cond_false];rotate_left
 ·exact mf fun _ q=>by subst q;exact Le.refl _
 cases Nat.beq z 1<;>simp only[cond_true,cond_false];cases Nat.beq z 0<;>simp only[cond_true,cond_false]
 ·exact Le.refl _
 all_goals exact ah fun _ q=>by subst q;exact Le.refl _
theorem sI (f:Nat)(hi:List Ob)(v:D)(o:List Ob)(k:KV):Le (Up f hi v o k) (k v o):=by
 unfold Up;cases Nat.beq f 104<;>simp only[cond_true,cond_false];rotate_left
 ·exact Sn hi v o k
 cases Nat.beq f 97<;>simp only[cond_true,cond_false];rotate_left
 ·exact So hi v o k
 cases bX f _<;>simp only[cond_true,cond_false];rotate_left
 ·exact VK hi v o k
 cases bX f _<;>simp only[cond_true,cond_false];rotate_left
 ·exact Sa hi v o k
 cases bX f _<;>simp only[cond_true,cond_false];rotate_left
 ·exact Sb hi v o k
 cases bX f _<;>simp only[cond_true,cond_false];rotate_left
 ·exact Sc hi v o k
 cases bX f _<;>simp only[cond_true,cond_false];rotate_left
 ·exact Sd hi v o k
 cases bX f _<;>simp only[cond_true,cond_false];rotate_left
 ·exact Se hi v o k
 cases bX f _<;>simp only[cond_true,cond_false];rotate_left
 ·exact Sf hi v o k
 cases bX f _<;>simp only[cond_true,cond_false];rotate_left
 ·exact Sg hi v o k
 cases bX f _<;>simp only[cond_true,cond_false];rotate_left
 ·exact Sh hi v o k
 cases bX f _<;>simp only[cond_true,cond_false];rotate_left
 ·exact Si hi v o k
 cases bX f _<;>simp only[cond_true,cond_false];rotate_left
 ·exact Sj hi v o k
 cases bX f _<;>simp only[cond_true,cond_false];rotate_left
 ·exact Sk hi v o k
 cases bX f _<;>simp only[cond_true,cond_false];rotate_left
 ·exact Sl hi v o k
 cases bX f _<;>simp only[cond_true,cond_false];rotate_left
 ·exact Sm hi v o k
 cases bX f _<;>simp only[cond_true,cond_false];rotate_left
 ·exact N2 hi v o k
 cases bX f _<;>simp only[cond_true,cond_false];rotate_left
 ·exact N4 hi v o k
 cases bX f _<;>simp only[cond_true,cond_false];rotate_left
 ·exact N6 hi v o k
 cases bX f _<;>simp only[cond_true,cond_false];rotate_left
 ·exact N8 hi v o k
 cases bX f _<;>simp only[cond_true,cond_false];rotate_left
 ·exact Oc hi v o k
 cases bX f _<;>simp only[cond_true,cond_false];rotate_left
 ·exact Oe hi v o k
 cases bX f _<;>simp only[cond_true,cond_false];rotate_left
 ·exact Og hi v o k
 cases bX f _<;>simp only[cond_true,cond_false];rotate_left
 ·exact Oi hi v o k
 cases bX f _<;>simp only[cond_true,cond_false];rotate_left
 ·exact Ol hi v o k
 cases bX f _<;>simp only[cond_true,cond_false];rotate_left
 ·exact On hi v o k
 cases bX f _<;>simp only[cond_true,cond_false];rotate_left
 ·exact Oq hi v o k
 cases bX f _<;>simp only[cond_true,cond_false];rotate_left
 ·exact Ou hi v o k
 cases bX f _<;>simp only[cond_true,cond_false];rotate_left
 ·exact Ow hi v o k
 exact Le.refl _
theorem th (z:D)(x:Da)(k:Da→R):Le (UA z x k) (k x):=by
 unfold UA;split
 ·exact ah fun _ q=>by subst q;exact Le.refl _
 ·exact f6 fun _ q=>by subst q;exact Le.refl _
 ·skip
  exact Le.refl _
 ·exact Le.refl _
theorem bW:(ZF).Ok:=⟨Pi,sI,th⟩
theorem ek:(YO).Ok:=⟨Pi,sI,th⟩
theorem IP:(YQ).Ok:=⟨V2,sI,th⟩
theorem av:(Xo).Ok:=⟨SP,sI,th⟩
theorem BZ:(YN).Ok:=⟨V0,sI,th⟩
theorem lQ:(YP).Ok:=⟨V1,sI,th⟩
noncomputable def kF (f:Nat):Fx:=(K8 prog0 globs0 UL f).getD ⟨.skip,[],false⟩
theorem cq (lp:ag→fd)(F:ag→R){f n m:Nat}{dc:jE}{args:List D}{hp:List Ob}(hd:dc.Ok)(hx:lay0.tab f=some (.code (kF f)))(hm:em f args hp.length=m)(hl:∀{cc:ag} {call:aG},co cc call→∀e∈cD (kF f).body 1,bM (lp cc) call n m e)(h:∀cc,TR m (lp cc) dc cc n (kF f) args hp=F cc):Le (F (bv lay0.tab n)) (evFn lay0.tab (n+1) f args hp):=
 Xt hd hx hm (hl (Pu _ _)) (h _)
end Go.Ab
