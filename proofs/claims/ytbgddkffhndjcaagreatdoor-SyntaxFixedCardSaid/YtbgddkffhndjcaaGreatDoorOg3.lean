import Derived.Test.YtbgddkffhndjcaaGreatDoorDcA
import Derived.Test.YtbgddkffhndjcaaGreatDoorAwZ
import Derived.KernelRfl
set_option linter.all false
namespace Go.Ab
open Go
set_option maxRecDepth 100000
noncomputable section
variable (cc:ab)(n:Nat)
def I3 (cc:ab)(n:Nat)(x:aK)(a:Int)(b:Int):R:=iL (aS a ↑x.Kids.length) (iL (aS (↑x.Kids.length) b) (some (pB true,[x.b])) (some (pB false,[x.b]))) (some (pB false,[x.b]))
def X1 (n:Nat)(x:aK)(a:Int)(b:Int):=dA (fun cc=>I3 cc n x a b) 81 [pI a,pI b,.box 0 0] [x.b] 1 n be
def G6:=b6 (fc 82).body 1 0
abbrev mC:=LD×Int×Int×aK×LD
def kf (n:Nat)(i:aK×LD->R)(j:mC->R)(Y:mC->R):mC->R:=fun(d,c,a,e,b)=>iL (aO a c) (cL (cp d a) fun p=>aP .i64 p fun h=>cL (cp b h) fun q=>bn q fun m=>cc 83 [pI m.Op] [] fun g l=>dP g fun o=>af o fun f=>ag l<|iL f (Y (d,c,ae .i64 (a+1),e,b)) (i (e,b))) (j (d,c,a,e,b))
def H2:Rd eQ mC:= .tl<| .v 1 (.P (.FP 83 .n))<| .o 3 1<| .l 12 1<| .i 13<| .i 14<| .h (.c (.Ob (.ci<| .cs<| .ci<| .ci<| .cs<| .cl 1<| .cl 1<| .cl 1 .n)) (.c (.Ob (.cl 8 .n)) .n))
def JG (J:JJ):=kf cc n (fun(a,b)=>J .ret (tB 6 false .nil) [a.b,.box [pL 8 b]]) (fun(a,b,c,d,e)=>J (.exit 0) (.cons 1 (.p (.fn 83 []))<|tO 3 1<|tL 12 1 a<|tI 13 b<|tI 14 c<|tB 15 false .nil) [d.b,.box [pL 8 e]])
def vE:df:=gH 411 H2 (JG cc n) cw
def HF {cc call}(hc:bA cc call)(n):bk (vE cc n) call n 2 (411,[1,3,12,13,14],G6,true):=cu be hc aA
def af3 (x:aK)(l:LD)(j:Int):R:=iL (aS 0 j) (iL (aS j ↑x.Kids.length) (itL (kf cc n (fun(c,a)=>some (pB false,[c.b,.box [pL 8 a]])) (fun(g,e,f,d,b)=>some (pB true,[d.b,.box [pL 8 b]]))) n (List.take (List.length x.Kids - Int.toNat j) (List.drop (Int.toNat j) x.Kids),↑(List.length (List.take (List.length x.Kids - Int.toNat j) (List.drop (Int.toNat j) x.Kids))),0,x,l)) (none)) (none)
def Uy (n:Nat)(x:aK)(l:LD)(j:Int):=iC (fun cc=>af3 cc n x l j) 82 [pI j,.p (.fn 83 []),.box 0 0,.box 1 0] [x.b,.box [pL 8 l]] 2 n be (fun cc=>vE cc n) (fun hc=>bj (HF hc n) aA)
def G7:=b6 (fc 82).body 1 0
abbrev mD:=LD×Int×Int×aK×LD
def kg (n:Nat)(i:aK×LD->R)(j:mD->R)(Y:mD->R):mD->R:=fun(d,c,a,e,b)=>iL (aO a c) (cL (cp d a) fun p=>aP .i64 p fun h=>cL (cp b h) fun q=>bn q fun m=>cc 87 [pI m.Op] [] fun g l=>dP g fun o=>af o fun f=>ag l<|iL f (Y (d,c,ae .i64 (a+1),e,b)) (i (e,b))) (j (d,c,a,e,b))
def H3:Rd eQ mD:= .tl<| .v 1 (.P (.FP 87 .n))<| .o 3 1<| .l 12 1<| .i 13<| .i 14<| .h (.c (.Ob (.ci<| .cs<| .ci<| .ci<| .cs<| .cl 1<| .cl 1<| .cl 1 .n)) (.c (.Ob (.cl 8 .n)) .n))
def JH (J:JJ):=kg cc n (fun(a,b)=>J .ret (tB 6 false .nil) [a.b,.box [pL 8 b]]) (fun(a,b,c,d,e)=>J (.exit 0) (.cons 1 (.p (.fn 87 []))<|tO 3 1<|tL 12 1 a<|tI 13 b<|tI 14 c<|tB 15 false .nil) [d.b,.box [pL 8 e]])
def vF:df:=gH 411 H3 (JH cc n) cw
def HG {cc call}(hc:bA cc call)(n):bk (vF cc n) call n 2 (411,[1,3,12,13,14],G7,true):=cu be hc aA
def DU (x:aK)(l:LD)(j:Int):R:=iL (aS 0 j) (iL (aS j ↑x.Kids.length) (itL (kg cc n (fun(c,a)=>some (pB false,[c.b,.box [pL 8 a]])) (fun(g,e,f,d,b)=>some (pB true,[d.b,.box [pL 8 b]]))) n (List.take (List.length x.Kids - Int.toNat j) (List.drop (Int.toNat j) x.Kids),↑(List.length (List.take (List.length x.Kids - Int.toNat j) (List.drop (Int.toNat j) x.Kids))),0,x,l)) (none)) (none)
def Uz (n:Nat)(x:aK)(l:LD)(j:Int):=iC (fun cc=>DU cc n x l j) 82 [pI j,.p (.fn 87 []),.box 0 0,.box 1 0] [x.b,.box [pL 8 l]] 2 n be (fun cc=>vF cc n) (fun hc=>bj (HG hc n) aA)
def G3:=b6 (fc 82).body 1 0
abbrev mz:=LD×Int×Int×aK×LD
def j8 (n:Nat)(i:aK×LD->R)(j:mz->R)(Y:mz->R):mz->R:=fun(d,c,a,e,b)=>iL (aO a c) (cL (cp d a) fun p=>aP .i64 p fun h=>cL (cp b h) fun q=>bn q fun m=>cc 84 [pI m.Op] [] fun g l=>dP g fun o=>af o fun f=>bF [] l<|iL f (Y (d,c,ae .i64 (a+1),e,b)) (i (e,b))) (j (d,c,a,e,b))
def HZ:Rd eQ mz:= .tl<| .v 1 (.P (.FP 84 .n))<| .o 3 1<| .l 12 1<| .i 13<| .i 14<| .h (.c (.Ob (.ci<| .cs<| .ci<| .ci<| .cs<| .cl 1<| .cl 1<| .cl 1 .n)) (.c (.Ob (.cl 8 .n)) .n))
def JD (J:JJ):=j8 cc n (fun(a,b)=>J .ret (tB 6 false .nil) [a.b,.box [pL 8 b]]) (fun(a,b,c,d,e)=>J (.exit 0) (.cons 1 (.p (.fn 84 []))<|tO 3 1<|tL 12 1 a<|tI 13 b<|tI 14 c<|tB 15 false .nil) [d.b,.box [pL 8 e]])
def vB:df:=gH 411 HZ (JD cc n) cw
def HC {cc call}(hc:bA cc call)(n):bk (vB cc n) call n 2 (411,[1,3,12,13,14],G3,true):=cu be hc aA
def DQ (x:aK)(l:LD)(j:Int):R:=iL (aS 0 j) (iL (aS j ↑x.Kids.length) (itL (j8 cc n (fun(c,a)=>some (pB false,[c.b,.box [pL 8 a]])) (fun(g,e,f,d,b)=>some (pB true,[d.b,.box [pL 8 b]]))) n (List.take (List.length x.Kids - Int.toNat j) (List.drop (Int.toNat j) x.Kids),↑(List.length (List.take (List.length x.Kids - Int.toNat j) (List.drop (Int.toNat j) x.Kids))),0,x,l)) (none)) (none)
def Uv (n:Nat)(x:aK)(l:LD)(j:Int):=iC (fun cc=>DQ cc n x l j) 82 [pI j,.p (.fn 84 []),.box 0 0,.box 1 0] [x.b,.box [pL 8 l]] 2 n be (fun cc=>vB cc n) (fun hc=>bj (HC hc n) aA)
def G4:=b6 (fc 82).body 1 0
abbrev mA:=LD×Int×Int×aK×LD
def j9 (n:Nat)(i:aK×LD->R)(j:mA->R)(Y:mA->R):mA->R:=fun(d,c,a,e,b)=>iL (aO a c) (cL (cp d a) fun p=>aP .i64 p fun h=>cL (cp b h) fun q=>bn q fun m=>cc 85 [pI m.Op] [] fun g l=>dP g fun o=>af o fun f=>bF [] l<|iL f (Y (d,c,ae .i64 (a+1),e,b)) (i (e,b))) (j (d,c,a,e,b))
def H0:Rd eQ mA:= .tl<| .v 1 (.P (.FP 85 .n))<| .o 3 1<| .l 12 1<| .i 13<| .i 14<| .h (.c (.Ob (.ci<| .cs<| .ci<| .ci<| .cs<| .cl 1<| .cl 1<| .cl 1 .n)) (.c (.Ob (.cl 8 .n)) .n))
def JE (J:JJ):=j9 cc n (fun(a,b)=>J .ret (tB 6 false .nil) [a.b,.box [pL 8 b]]) (fun(a,b,c,d,e)=>J (.exit 0) (.cons 1 (.p (.fn 85 []))<|tO 3 1<|tL 12 1 a<|tI 13 b<|tI 14 c<|tB 15 false .nil) [d.b,.box [pL 8 e]])
def vC:df:=gH 411 H0 (JE cc n) cw
def HD {cc call}(hc:bA cc call)(n):bk (vC cc n) call n 2 (411,[1,3,12,13,14],G4,true):=cu be hc aA
def DR (x:aK)(l:LD)(j:Int):R:=iL (aS 0 j) (iL (aS j ↑x.Kids.length) (itL (j9 cc n (fun(c,a)=>some (pB false,[c.b,.box [pL 8 a]])) (fun(g,e,f,d,b)=>some (pB true,[d.b,.box [pL 8 b]]))) n (List.take (List.length x.Kids - Int.toNat j) (List.drop (Int.toNat j) x.Kids),↑(List.length (List.take (List.length x.Kids - Int.toNat j) (List.drop (Int.toNat j) x.Kids))),0,x,l)) (none)) (none)
def Uw (n:Nat)(x:aK)(l:LD)(j:Int):=iC (fun cc=>DR cc n x l j) 82 [pI j,.p (.fn 85 []),.box 0 0,.box 1 0] [x.b,.box [pL 8 l]] 2 n be (fun cc=>vC cc n) (fun hc=>bj (HD hc n) aA)
def G5:=b6 (fc 82).body 1 0
abbrev mB:=LD×Int×Int×aK×LD
def ka (n:Nat)(i:aK×LD->R)(j:mB->R)(Y:mB->R):mB->R:=fun(d,c,a,e,b)=>iL (aO a c) (cL (cp d a) fun p=>aP .i64 p fun h=>cL (cp b h) fun q=>bn q fun m=>cc 86 [pI m.Op] [] fun g l=>dP g fun o=>af o fun f=>bF [] l<|iL f (Y (d,c,ae .i64 (a+1),e,b)) (i (e,b))) (j (d,c,a,e,b))
def H1:Rd eQ mB:= .tl<| .v 1 (.P (.FP 86 .n))<| .o 3 1<| .l 12 1<| .i 13<| .i 14<| .h (.c (.Ob (.ci<| .cs<| .ci<| .ci<| .cs<| .cl 1<| .cl 1<| .cl 1 .n)) (.c (.Ob (.cl 8 .n)) .n))
def JF (J:JJ):=ka cc n (fun(a,b)=>J .ret (tB 6 false .nil) [a.b,.box [pL 8 b]]) (fun(a,b,c,d,e)=>J (.exit 0) (.cons 1 (.p (.fn 86 []))<|tO 3 1<|tL 12 1 a<|tI 13 b<|tI 14 c<|tB 15 false .nil) [d.b,.box [pL 8 e]])
def vD:df:=gH 411 H1 (JF cc n) cw
def HE {cc call}(hc:bA cc call)(n):bk (vD cc n) call n 2 (411,[1,3,12,13,14],G5,true):=cu be hc aA
def DS (x:aK)(l:LD)(j:Int):R:=iL (aS 0 j) (iL (aS j ↑x.Kids.length) (itL (ka cc n (fun(c,a)=>some (pB false,[c.b,.box [pL 8 a]])) (fun(g,e,f,d,b)=>some (pB true,[d.b,.box [pL 8 b]]))) n (List.take (List.length x.Kids - Int.toNat j) (List.drop (Int.toNat j) x.Kids),↑(List.length (List.take (List.length x.Kids - Int.toNat j) (List.drop (Int.toNat j) x.Kids))),0,x,l)) (none)) (none)
def Ux (n:Nat)(x:aK)(l:LD)(j:Int):=iC (fun cc=>DS cc n x l j) 82 [pI j,.p (.fn 86 []),.box 0 0,.box 1 0] [x.b,.box [pL 8 l]] 2 n be (fun cc=>vD cc n) (fun hc=>bj (HE hc n) aA)
def I4 (n:Nat)(a:Int):R:=cc 83 [pI a] [] fun c d=>dP c fun e=>af e fun b=>ag d<|iL b rT (iL (eqI a 7) rT rF)
def X2 (n:Nat)(a:Int):=dA (fun cc=>I4 cc n a) 84 [pI a] [] 0 n be
def rL (cc:ab)(n:Nat)(a:Int):R:=iL (aS 1 a) (iL (aS a 6) rT rF) rF
def De (n:Nat)(a:Int):=dA (fun cc=>rL cc n a) 83 [pI a] [] 0 n be
def tJ (cc:ab)(n:Nat)(a:Int):R:=iL (aS 8 a) (iL (aS a 17) rT rF) rF
def FU (n:Nat)(a:Int):=dA (fun cc=>tJ cc n a) 87 [pI a] [] 0 n be
def xx (n:Nat)(a:aK):R:=cc 30 [.p (.agg [.int .i64 a.Value_Kind,.int .i64 a.Value_N,.str a.Value_S,.slice 1 a.Value_I,.slice 1 a.Value_L]),.p (.agg [.int .i64 0,.int .i64 0,.str [],.slice 1 [],.slice 1 []])] [] fun x W=>dP x fun x3=>af x3 fun b=>ag W<|iL (eqI a.Op 1) (iL (bv a.Name []) (cc 50 [.p (.agg [.int .i64 a.Value_Kind,.int .i64 a.Value_N,.str a.Value_S,.slice 1 a.Value_I,.slice 1 a.Value_L])] [] fun I o6=>dP I fun x7=>af x7 fun v=>ag o6<|iL v (iL (eqI a.Value_Kind 1) (iL (aS 0 a.Value_N) rT (iL (eqI a.Value_Kind 2) rT (some (pB (eqI a.Value_Kind 3),[])))) (iL (eqI a.Value_Kind 2) rT (some (pB (eqI a.Value_Kind 3),[])))) rF) rF) (iL (eqI a.Op 2) (iL (eqI a.Op 2) (cc 16 [pS a.Name] [] fun S T=>dP S fun b5=>af b5 fun c=>ag T<|iL c (some (pB b,[])) rF) (iL (eqI a.Op 4) (iL (bv a.Name [45]) (some (pB b,[])) (iL (bv a.Name [33]) (some (pB b,[])) rF)) (iL (eqI a.Op 5) (cc 88 [pL 1 [Da.str [124,124],Da.str [38,38],Da.str [61,61],Da.str [33,61],Da.str [60],Da.str [60,61],Da.str [62],Da.str [62,61],Da.str [43],Da.str [45],Da.str [42],Da.str [47],Da.str [37]],pS a.Name] [] fun y U=>dP y fun b6=>af b6 fun d=>ag U<|iL d (some (pB b,[])) rF) (iL (eqI a.Op 6) (cc 16 [pS a.Name] [] fun z V=>dP z fun b7=>af b7 fun e=>ag V<|iL e (some (pB b,[])) (iL (bv a.Name [105,110,116,115]) (some (pB b,[])) (iL (bv a.Name [115,116,114,105,110,103,115]) (some (pB b,[])) rF))) (iL (eqI a.Op 7) (cc 16 [pS a.Name] [] fun A X=>dP A fun b9=>af b9 fun f=>ag X<|iL f (cc 16 [pS a.Value_S] [] fun B Z=>dP B fun c0=>af c0 fun g=>ag Z<|iL g (cc 30 [.p (.agg [.int .i64 a.Value_Kind,.int .i64 a.Value_N,.str a.Value_S,.slice 1 a.Value_I,.slice 1 a.Value_L]),.p (.agg [.int .i64 0,.int .i64 0,.str a.Value_S,.slice 1 [],.slice 1 []])] [] fun C a0=>dP C fun c2=>af c2 fun h=>ag a0<|some (pB h,[])) rF) rF) (iL (eqI a.Op 8) (cc 16 [pS a.Name] [] fun D a1=>dP D fun c3=>af c3 fun i=>ag a1<|iL i (cc 49 [pI a.Value_Kind] [] fun E a2=>dP E fun c4=>af c4 fun j=>ag a2<|iL j (cc 30 [.p (.agg [.int .i64 a.Value_Kind,.int .i64 a.Value_N,.str a.Value_S,.slice 1 a.Value_I,.slice 1 a.Value_L]),.p (.agg [.int .i64 a.Value_Kind,.int .i64 0,.str [],.slice 1 [],.slice 1 []])] [] fun F a3=>dP F fun c5=>af c5 fun l=>ag a3<|some (pB l,[])) rF) rF) (iL (bv a.Name []) (some (pB b,[])) rF))))))) (iL (eqI a.Op 9) (cc 16 [pS a.Name] [] fun G a4=>dP G fun c6=>af c6 fun m=>ag a4<|iL m (some (pB b,[])) rF) (iL (eqI a.Op 4) (iL (bv a.Name [45]) (some (pB b,[])) (iL (bv a.Name [33]) (some (pB b,[])) rF)) (iL (eqI a.Op 5) (cc 88 [pL 1 [Da.str [124,124],Da.str [38,38],Da.str [61,61],Da.str [33,61],Da.str [60],Da.str [60,61],Da.str [62],Da.str [62,61],Da.str [43],Da.str [45],Da.str [42],Da.str [47],Da.str [37]],pS a.Name] [] fun H a5=>dP H fun c7=>af c7 fun o=>ag a5<|iL o (some (pB b,[])) rF) (iL (eqI a.Op 6) (cc 16 [pS a.Name] [] fun J a6=>dP J fun c8=>af c8 fun p=>ag a6<|iL p (some (pB b,[])) (iL (bv a.Name [105,110,116,115]) (some (pB b,[])) (iL (bv a.Name [115,116,114,105,110,103,115]) (some (pB b,[])) rF))) (iL (eqI a.Op 7) (cc 16 [pS a.Name] [] fun K a7=>dP K fun c9=>af c9 fun q=>ag a7<|iL q (cc 16 [pS a.Value_S] [] fun L a9=>dP L fun d0=>af d0 fun r=>ag a9<|iL r (cc 30 [.p (.agg [.int .i64 a.Value_Kind,.int .i64 a.Value_N,.str a.Value_S,.slice 1 a.Value_I,.slice 1 a.Value_L]),.p (.agg [.int .i64 0,.int .i64 0,.str a.Value_S,.slice 1 [],.slice 1 []])] [] fun M b0=>dP M fun d2=>af d2 fun s=>ag b0<|some (pB s,[])) rF) rF) (iL (eqI a.Op 8) (cc 16 [pS a.Name] [] fun N b1=>dP N fun d4=>af d4 fun t=>ag b1<|iL t (cc 49 [pI a.Value_Kind] [] fun O b2=>dP O fun d6=>af d6 fun u=>ag b2<|iL u (cc 30 [.p (.agg [.int .i64 a.Value_Kind,.int .i64 a.Value_N,.str a.Value_S,.slice 1 a.Value_I,.slice 1 a.Value_L]),.p (.agg [.int .i64 a.Value_Kind,.int .i64 0,.str [],.slice 1 [],.slice 1 []])] [] fun P b3=>dP P fun d7=>af d7 fun w=>ag b3<|some (pB w,[])) rF) rF) (iL (bv a.Name []) (some (pB b,[])) rF))))))))
def JT (n:Nat)(a:aK):=dA (fun cc=>xx cc n a) 54 [.p a.e] [] 0 n bm
def uQ:=b6 (fc 55).body 1 0
def G2:=b6 uQ 1691 0
abbrev jV:=LD×Nat×Int×Int×LD×Int×Int×LD×Int×Int×LD×aK
def j0 (cc:ab)(n:Nat)(q:jV->R)(Y:jV->R):jV->R:=fun(o,h,i,a,m,j,l,f,e,b,g,d)=>iL (aO b e) (cL (cp f b) fun r=>aP .i64 r fun p=>iL (aS 0 p) (iL (aO p ↑h) (cL (g[0+Int.toNat p]?) fun s=>aP .i64 s fun c=>iL (eqI d.Op 11) (iL (eqI b 0) (Y (o,h,i,bif aO a (ae .i64 (c+1))then ae .i64 (c+1)else a,m,j,l,f,e,ae .i64 (b+1),g,d)) (Y (o,h,i,bif aO a c then c else a,m,j,l,f,e,ae .i64 (b+1),g,d))) (iL (eqI d.Op 12) (iL (eqI b 0) (Y (o,h,i,bif aO a (ae .i64 (c+1))then ae .i64 (c+1)else a,m,j,l,f,e,ae .i64 (b+1),g,d)) (Y (o,h,i,bif aO a c then c else a,m,j,l,f,e,ae .i64 (b+1),g,d))) (Y (o,h,i,bif aO a c then c else a,m,j,l,f,e,ae .i64 (b+1),g,d)))) (none)) (none)) (q (o,h,i,a,m,j,l,f,e,b,g,d))
def HY:Rd eQ jV:= .tl<| .l 0 8<| .t 3 (.Ar 0 1)<| .i 4<| .o 5 1<| .i 6<| .l 13 8<| .i 14<| .i 15<| .l 21 1<| .i 22<| .i 23<| .h (.c .Oa<| .c (.Ob (.ci<| .cs<| .ci<| .ci<| .cs<| .cl 1<| .cl 1<| .cl 1 .n)) .n)
def JC (J:JJ):=j0 cc n (fun(a,b,e,f,g,h,i,j,l,m,c,d)=>J (.exit 2) (tL 0 8 a<| .cons 3 (.arr 0 0 b 1)<|tI 4 e<|tO 5 1<|tI 6 f<|tL 13 8 g<|tI 14 h<|tI 15 i<|tL 21 1 j<|tI 22 l<|tI 23 m<|tB 24 false .nil) [.arr c,d.b])
def vA:df:=gH 443457179 HY (JC cc n) cw
def HB {cc call}(hc:bA cc call)(n):bk (vA cc n) call n 0 (443457179,[0,3,4,5,6,13,14,15,21,22,23],G2,true):=cu be hc aA
abbrev jU:=LD×Nat×LD×Int×Int×LD
def ic (B:jU->R)(Y:jU->R):jU->R:=fun(p,r,m,l,j,q)=>iL (aO j l) (cL (cp m j) fun L=>bn L fun o=>itL (j0 cc n (fun(g,c,a,d,h,e,f,O,M,N,b,i)=>iL (eqI i.Op 4) (iL (aS 0 a) (iL (aO a ↑c) (cL (b[0+Int.toNat a]?) fun s=>iL (Nat.beq (List.length (cells s)) 1) (cL (ej s (cells (Da.int .i64 (ae .i64 (d+2))))) fun C=>Y (g,c,h,e,ae .i64 (f+1),List.set b (0+Int.toNat a) C)) (none)) (none)) (none)) (iL (eqI i.Op 5) (iL (aS 0 a) (iL (aO a ↑c) (cL (b[0+Int.toNat a]?) fun t=>iL (Nat.beq (List.length (cells t)) 1) (cL (ej t (cells (Da.int .i64 (ae .i64 (d+1))))) fun D=>Y (g,c,h,e,ae .i64 (f+1),List.set b (0+Int.toNat a) D)) (none)) (none)) (none)) (iL (eqI i.Op 6) (iL (aS 0 a) (iL (aO a ↑c) (cL (b[0+Int.toNat a]?) fun u=>iL (Nat.beq (List.length (cells u)) 1) (cL (ej u (cells (Da.int .i64 (ae .i64 (d+1))))) fun E=>Y (g,c,h,e,ae .i64 (f+1),List.set b (0+Int.toNat a) E)) (none)) (none)) (none)) (iL (eqI i.Op 7) (iL (aS 0 a) (iL (aO a ↑c) (cL (b[0+Int.toNat a]?) fun v=>iL (Nat.beq (List.length (cells v)) 1) (cL (ej v (cells (Da.int .i64 (ae .i64 (d+1))))) fun F=>Y (g,c,h,e,ae .i64 (f+1),List.set b (0+Int.toNat a) F)) (none)) (none)) (none)) (iL (eqI i.Op 15) (iL (aS 0 a) (iL (aO a ↑c) (cL (b[0+Int.toNat a]?) fun w=>iL (Nat.beq (List.length (cells w)) 1) (cL (ej w (cells (Da.int .i64 (ae .i64 (d+1))))) fun G=>Y (g,c,h,e,ae .i64 (f+1),List.set b (0+Int.toNat a) G)) (none)) (none)) (none)) (iL (eqI i.Op 16) (iL (aS 0 a) (iL (aO a ↑c) (cL (b[0+Int.toNat a]?) fun x=>iL (Nat.beq (List.length (cells x)) 1) (cL (ej x (cells (Da.int .i64 (ae .i64 (d+1))))) fun H=>Y (g,c,h,e,ae .i64 (f+1),List.set b (0+Int.toNat a) H)) (none)) (none)) (none)) (iL (eqI i.Op 17) (iL (aS 0 a) (iL (aO a ↑c) (cL (b[0+Int.toNat a]?) fun y=>iL (Nat.beq (List.length (cells y)) 1) (cL (ej y (cells (Da.int .i64 (ae .i64 (d+1))))) fun I=>Y (g,c,h,e,ae .i64 (f+1),List.set b (0+Int.toNat a) I)) (none)) (none)) (none)) (iL (eqI i.Op 18) (iL (aS 0 a) (iL (aO a ↑c) (cL (b[0+Int.toNat a]?) fun z=>iL (Nat.beq (List.length (cells z)) 1) (cL (ej z (cells (Da.int .i64 (ae .i64 (d+1))))) fun J=>Y (g,c,h,e,ae .i64 (f+1),List.set b (0+Int.toNat a) J)) (none)) (none)) (none)) (iL (aS 0 a) (iL (aO a ↑c) (cL (b[0+Int.toNat a]?) fun A=>iL (Nat.beq (List.length (cells A)) 1) (cL (ej A (cells (Da.int .i64 d))) fun K=>Y (g,c,h,e,ae .i64 (f+1),List.set b (0+Int.toNat a) K)) (none)) (none)) (none))))))))))) n (p,r,j,0,m,l,j,o.Kids,↑o.Kids.length,0,q,o)) (B (p,r,m,l,j,q))
def HX:Rd eQ jU:= .tl<| .l 0 8<| .t 3 (.Ar 0 1)<| .l 13 8<| .i 14<| .i 15<| .h (.c .Oa .n)
def JB (J:JJ):=ic cc n (fun(a,b,c,d,e,f)=>J (.exit 0) (tL 0 8 a<| .cons 3 (.arr 0 0 b 1)<|tL 13 8 c<|tI 14 d<|tI 15 e<|tB 16 false .nil) [.arr f])
def vy:df:=gH 1691 HX (JB cc n) (vA cc n)
def HA {cc call}(hc:bA cc call)(n):bk (vy cc n) call n 0 (1691,[0,3,13,14,15],uQ,true):=cu be hc (bj (HB hc n) aA)
def DP (a:LD):R:=iL (aS 0 ↑a.length&&aS ↑a.length ↑a.length&&Nat.ble (Int.toNat ↑a.length*8) 281474976710656&&aS (↑a.length) 9223372036854775807) (itL (ic cc n (fun(b,e,i,g,h,d)=>iL (eqI (↑b.length) 0) (some (pI 0,[])) (iL (aS 0 (ae .i64 (↑b.length - 1))) (iL (aO (ae .i64 (↑b.length - 1)) ↑e) (cL (d[0+Int.toNat (ae .i64 (↑b.length - 1))]?) fun f=>aP .i64 f fun c=>some (pI c,[])) (none)) (none)))) n (a,Int.toNat ↑a.length,a,↑a.length,0,List.replicate (Int.toNat ↑a.length) (Da.int .i64 0))) (none)
def Uu (n:Nat)(a:LD):=iC (fun cc=>DP cc n a) 55 [pL 8 a] [] 0 n be (fun cc=>vy cc n) (fun hc=>bj (HA hc n) aA)
def xS:=b6 (fc 9).body 1 0
def LC:=b6 xS 6811 0
abbrev lB:=Int×LD×Int×Int×LD×Int×Int
def lH (n:Nat)(e:bf->R)(p:lB->R)(Y:lB->R):lB->R:=fun(c,i,g,h,f,d,b)=>iL (aO b d) (cL (cp f b) fun s=>dR s fun a=>iL (aO 1500 (ae .i64 (c+ ↑a.Nodes.length))) (e a) (cc 20 [.p a.e] [] fun m q=>dP m fun t=>af t fun j=>ag q<|iL j (cc 21 [pL 8 a.Nodes] [] fun o r=>dP o fun u=>af u fun l=>ag r<|iL l (Y (ae .i64 (c+ ↑a.Nodes.length),i,g,h,f,d,ae .i64 (b+1))) (e a)) (e a))) (p (c,i,g,h,f,d,b))
def MY:Rd eQ lB:= .tl<| .i 3<| .l 13 3<| .i 14<| .i 15<| .l 41 4<| .i 42<| .i 43<| .h .n
def N7 (J:JJ):=lH cc n (fun a=>J .ret (tB 2 false .nil) [a.b]) (fun(a,b,c,d,e,f,g)=>J (.exit 2) (tI 3 a<|tL 13 3 b<|tI 14 c<|tI 15 d<|tL 41 4 e<|tI 42 f<|tI 43 g<|tB 44 false .nil) [])
def ye:df:=gH 446408619 MY (N7 cc n) cw
def Mn {cc call}(hc:bA cc call)(n):bk (ye cc n) call n 0 (446408619,[3,13,14,15,41,42,43],LC,true):=cu Pl hc aA
abbrev lA:=Int×LD×Int×Int
def lG (c:ba->R)(p:bf->R)(q:lA->R)(Y:lA->R):lA->R:=fun(f,e,d,b)=>iL (aO b d) (cL (cp e b) fun w=>bC w fun a=>cc 16 [pS a.Name] [] fun j t=>dP j fun x=>af x fun g=>ag t<|iL g (iL (aO 8 ↑a.Fields.length) (c a) (iL (aO 16 ↑a.Methods.length) (c a) (cc 17 [pL 7 a.Fields,.p (.fn 18 [])] [] fun i s=>dP i fun v=>af v fun h=>ag s<|iL h (c a) (itL (lH cc n (fun u=>p u) (fun(l,r,m,o,A,y,z)=>Y (l,r,m,ae .i64 (o+1)))) n (f,e,d,b,a.Methods,↑a.Methods.length,0))))) (c a)) (q (f,e,d,b))
def MX:Rd eQ lA:= .tl<| .i 3<| .l 13 3<| .i 14<| .i 15<| .h .n
def N6 (J:JJ):=lG cc n (fun a=>J .ret (tB 2 false .nil) [a.b]) (fun a=>J .ret (tB 2 false .nil) [a.b]) (fun(a,b,c,d)=>J (.exit 0) (tI 3 a<|tL 13 3 b<|tI 14 c<|tI 15 d<|tB 16 false .nil) [])
def yd:df:=gH 6811 MX (N6 cc n) (ye cc n)
def Mm {cc call}(hc:bA cc call)(n):bk (yd cc n) call n 0 (6811,[3,13,14,15],xS,true):=cu Pl hc (bj (Mn hc n) aA)
def I2 (a:bL):R:=iL (aO 8 ↑a.Types.length) rF (itL (lG cc n (fun f=>rF) (fun g=>rF) (fun(b,e,c,d)=>rT)) n (0,a.Types,↑a.Types.length,0))
def X0 (n:Nat)(a:bL):=iC (fun cc=>I2 cc n a) 9 [.p a.e] [] 0 n Pl (fun cc=>yd cc n) (fun hc=>bj (Mm hc n) aA)
def DO (n:Nat)(d:cb):R:=cc 19 [.p d.e] [] fun b c=>dP b fun e=>af e fun a=>ag c<|iL a rF rT
def Ut (n:Nat)(a:cb):=dA (fun cc=>DO cc n a) 18 [.p a.e] [] 0 n be
def mX (n:Nat)(a:cb):R:=cc 16 [pS a.Name] [] fun f m=>dP f fun r=>af r fun d=>ag m<|iL d (cc 49 [pI a.Kind] [] fun h o=>dP h fun s=>af s fun e=>ag o<|iL e (iL (!eqI a.Init_Kind a.Kind) rF (cc 50 [.p (.agg [.int .i64 a.Init_Kind,.int .i64 a.Init_N,.str a.Init_S,.slice 1 a.Init_I,.slice 1 a.Init_L])] [] fun i j=>dP i fun p=>af p fun b=>ag j<|iL b (iL (eqI a.Init_N (-9223372036854775808)) rF (cc 51 [pL 1 a.Init_I,pI (-9223372036854775808)] [] fun g l=>dP g fun q=>af q fun c=>ag l<|iL c rF rT)) rF)) rF) rF
def Df (n:Nat)(a:cb):=dA (fun cc=>mX cc n a) 19 [.p a.e] [] 0 n be
def uR:=b6 (fc 20).body 1 0
abbrev ga:=LD×Int×Int
def cR (n:Nat)(e:eq->R)(j:ga->R)(Y:ga->R):ga->R:=fun(d,c,a)=>iL (aO a c) (cL (cp d a) fun o=>cJ o fun b=>cc 16 [pS b.Name] [] fun h l=>dP h fun p=>af p fun f=>ag l<|iL f (cc 49 [pI b.Kind] [] fun i m=>dP i fun q=>af q fun g=>ag m<|iL g (Y (d,c,ae .i64 (a+1))) (e b)) (e b)) (j (d,c,a))
def vh:Rd eQ ga:= .tl<| .l 27 2<| .i 28<| .i 29<| .h .n
def wj (J:JJ):=cR cc n (fun a=>J .ret (tB 2 false .nil) [a.b]) (fun(a,b,c)=>J (.exit 0) (tL 27 2 a<|tI 28 b<|tI 29 c<|tB 30 false .nil) [])
def mT:df:=gH 1691 vh (wj cc n) cw
def uZ {cc call}(hc:bA cc call)(n):bk (mT cc n) call n 0 (1691,[27,28,29],uR,true):=cu be hc aA
def lz (a:bf):R:=cc 16 [pS a.Name] [] fun d f=>dP d fun h=>af h fun b=>ag f<|iL b (iL (aO 4 ↑a.Params.length) rF (iL (!eqI a.Result 0) (cc 49 [pI a.Result] [] fun e g=>dP e fun i=>af i fun c=>ag g<|iL c (itL (cR cc n (fun r=>rF) (fun(p,j,l)=>rT)) n (a.Params,↑a.Params.length,0)) rF) (itL (cR cc n (fun s=>rF) (fun(q,m,o)=>rT)) n (a.Params,↑a.Params.length,0)))) rF
def AI (n:Nat)(a:bf):=iC (fun cc=>lz cc n a) 20 [.p a.e] [] 0 n be (fun cc=>mT cc n) (fun hc=>bj (uZ hc n) aA)
def yS:=b6 (fc 21).body 1 0
abbrev iI:=LD×LD×Int×Int
def fN (n:Nat)(f:aK->R)(l:iI->R)(Y:iI->R):iI->R:=fun(d,e,c,a)=>iL (aO a c) (cL (cp e a) fun p=>bn p fun b=>cc 53 [pL 8 d,.p b.e] [] fun i m=>dP i fun q=>af q fun g=>ag m<|iL g (cc 54 [.p b.e] [] fun j o=>dP j fun r=>af r fun h=>ag o<|iL h (Y (d,e,c,ae .i64 (a+1))) (f b)) (f b)) (l (d,e,c,a))
def y5:Rd eQ iI:= .tl<| .l 0 8<| .l 18 8<| .i 19<| .i 20<| .h .n
def AC (J:JJ):=fN cc n (fun a=>J .ret (tB 2 false .nil) [a.b]) (fun(a,b,c,d)=>J (.exit 0) (tL 0 8 a<|tL 18 8 b<|tI 19 c<|tI 20 d<|tB 21 false .nil) [])
def pG:df:=gH 1691 y5 (AC cc n) cw
def yX {cc call}(hc:bA cc call)(n):bk (pG cc n) call n 0 (1691,[0,18,19,20],yS,true):=cu be hc aA
def tK (a:LD):R:=cc 52 [pL 8 a] [] fun c g=>dP c fun l=>af l fun b=>ag g<|iL b (cL (cp a (ae .i64 (↑a.length - 1))) fun m=>bn m fun i=>iL (!eqI i.Op 18) rF (itL (fN cc n (fun r=>rF) (fun(f,q,o,p)=>cc 55 [pL 8 f] [] fun d h=>dP d fun j=>aP .i64 j fun e=>ag h<|iL (aS e 24) rT rF)) n (a,a,↑a.length,0))) rF
def FV (n:Nat)(a:LD):=iC (fun cc=>tK cc n a) 21 [pL 8 a] [] 0 n be (fun cc=>pG cc n) (fun hc=>bj (yX hc n) aA)
def IZ (n:Nat)(l:LD):R:=cc 48 [pL 7 l,.p (.fn 18 [])] [] fun a c=>dP a fun d=>aP .i64 d fun b=>ag c<|iL (aS 0 b) rT rF
def XX (n:Nat)(l:LD):=dA (fun cc=>IZ cc n l) 17 [pL 7 l,.p (.fn 18 [])] [] 0 n be
def PO:=b6 (fc 48).body 1 0
abbrev qW:=LD×Int×Int
def nj (n:Nat)(f:Int->R)(g:qW->R)(Y:qW->R):qW->R:=fun(c,b,a)=>iL (aO a b) (cL (cp c a) fun j=>cI j fun i=>cc 18 [.p i.e] [] fun e h=>dP e fun l=>af l fun d=>bF [] h<|iL d (f a) (Y (c,b,ae .i64 (a+1)))) (g (c,b,a))
def Qs:Rd eQ qW:= .tl<| .l 0 7<| .v 1 (.P (.FP 18 .n))<| .i 7<| .i 8<| .h .n
def Uh (J:JJ):=nj cc n (fun a=>J .ret (tI 4 a .nil) []) (fun(a,b,c)=>J (.exit 0) (tL 0 7 a<| .cons 1 (.p (.fn 18 []))<|tI 7 b<|tI 8 c<|tB 9 false .nil) [])
def CC:df:=gH 411 Qs (Uh cc n) cw
def P8 {cc call}(hc:bA cc call)(n):bk (CC cc n) call n 0 (411,[0,1,7,8],PO,true):=cu be hc aA
def Q8 (l:LD):R:=itL (nj cc n (fun a=>some (pI a,[])) (fun(d,b,c)=>some (pI (-1),[]))) n (l,↑l.length,0)
def Ũ (n:Nat)(l:LD):=iC (fun cc=>Q8 cc n l) 48 [pL 7 l,.p (.fn 18 [])] [] 0 n be (fun cc=>CC cc n) (fun hc=>bj (P8 hc n) aA)
def Ag (n:Nat)(c:cG)(l:LD):R:=cc 25 [.box 0 0,pI (↑l.length),.fn 92 [.box 1 0,.box 2 0]] (NP.mk c.bu c.ns l c.ou).hp fun b d=>aI b fun e=>ag e<|R2 d fun a=>some (.tup [],(cG.mk a.bu a.ns a.ou).hp)
def OY (n:Nat)(c:cG)(l:LD):=dA (fun cc=>Ag cc n c l) 62 [.box 0 0,pL 1 l] c.hp 1 n bm
def xD (n:Nat)(c:Ŧ)(i:Int):R:=cL (cp c.li i) fun g=>aP .i64 g fun d=>cc 27 [.box 0 0,pI d] (cG.mk c.bu c.ns c.ou).hp fun b e=>aI b fun f=>ag f<|bh e fun a=>some (.tup [],(ŧ.mk a.bu a.ns c.li a.ou).hp)
def J1 (n:Nat)(c:Ŧ)(i:Int):=dA (fun cc=>xD cc n c i) 92 [pI i,.box 0 0,.box 3 0] c.hp 4 n bm
def ek (a:D)(b:List Ob):R:=aI a fun c=>ag c<|bh b fun d=>some (.tup [],d.hp)
def q0 (i:Da)(cc:ab)(g:cG):R:=aP .i64 i fun c=>cc 27 [.box 0 0,pI c] g.hp fun a d=>aI a fun f=>ag f<|bh d fun h=>cc 22 [.box 0 0,pL 1 [Da.str [41]]] h.hp fun b e=>ek b e
def Ri (n:Nat)(c:cG)(i:Int):R:=cL (cp c.ns i) fun x1=>bn x1 fun a=>iL (eqI a.Op 1) (cc 24 [.box 0 0,.p (.agg [.int .i64 a.Value_Kind,.int .i64 a.Value_N,.str a.Value_S,.slice 1 a.Value_I,.slice 1 a.Value_L])] c.hp fun f y=>aI f fun M=>ag M<|bh y fun u6=>some (.tup [],u6.hp)) (iL (eqI a.Op 2) (cc 22 [.box 0 0,pL 1 [Da.str a.Name]] c.hp fun q H=>aI q fun T=>ag T<|bh H fun U=>some (.tup [],U.hp)) (iL (eqI a.Op 3) (cc 22 [.box 0 0,pL 1 [Da.str [115,101,108,102]]] c.hp fun b u=>ek b u) (iL (eqI a.Op 4) (cc 22 [.box 0 0,pL 1 [Da.str [40],Da.str a.Name]] c.hp fun d v=>aI d fun I=>ag I<|bh v fun V=>cL (cp a.Kids 0) fun a6=>q0 a6 cc V) (iL (eqI a.Op 5) (cc 22 [.box 0 0,pL 1 [Da.str [40]]] c.hp fun e w=>aI e fun J=>ag J<|bh w fun W=>cL (cp a.Kids 0) fun a7=>aP .i64 a7 fun t=>cc 27 [.box 0 0,pI t] W.hp fun g x=>aI g fun K=>ag K<|bh x fun X=>cc 22 [.box 0 0,pL 1 [Da.str a.Name]] X.hp fun h z=>aI h fun L=>ag L<|bh z fun Z=>cL (cp a.Kids 1) fun a8=>q0 a8 cc Z) (iL (eqI a.Op 6) (cc 22 [.box 0 0,pL 1 [Da.str a.Name]] c.hp fun j A=>aI j fun N=>ag N<|bh A fun a0=>cc 62 [.box 0 0,pL 1 a.Kids] a0.hp fun l B=>ek l B) (iL (eqI a.Op 7) (cc 22 [.box 0 0,pL 1 [Da.str [99,97,108,108],Da.str a.Name]] c.hp fun m C=>aI m fun O=>ag O<|bh C fun a2=>iL (aS 1 ↑a.Kids.length) (cc 62 [.box 0 0,pL 1 (List.take (Int.toNat 1 - 0) (List.drop 0 a.Kids))] a2.hp fun o D=>aI o fun P=>ag P<|bh D fun a3=>cc 22 [.box 0 0,pL 1 [Da.str [46],Da.str a.Value_S]] a3.hp fun p E=>aI p fun S=>ag S<|bh E fun a4=>iL (aS 1 ↑a.Kids.length) (cc 62 [.box 0 0,pL 1 (List.take (List.length a.Kids - Int.toNat 1) (List.drop (Int.toNat 1) a.Kids))] a4.hp fun r F=>ek r F) (none)) (none)) (cc 63 [.box 0 0,.p a.e] c.hp fun s G=>ek s G)))))))
def ű (n:Nat)(c:cG)(i:Int):=dA (fun cc=>Ri cc n c i) 27 [.box 0 0,pI i] c.hp 1 n bm
def wR:=b6 (fc 63).body 1 0
def wT:=b6 (fc 63).body 1 1
abbrev kH:=LD×Int×Int×Nat×LD×LD
def fb (n:Nat)(j:LD×Int×Int×Bool×Nat×LD×LD->R)(Y:kH->R):kH->R:=fun(c,b,a,g,e,f)=>iL (aO a b) (cL (cp c a) fun o=>aP .i64 o fun i=>cc 27 [.box 0 0,pI i] (cG.mk g e f).hp fun h l=>aI h fun m=>ag m<|bh l fun d=>Y (c,b,ae .i64 (a+1),d.bu,d.ns,d.ou)) (j (c,b,a,aO a b,g,e,f))
def L_ystatementW_1 (cc n a q):=itL (fb cc n a) q
def ni {cc n a q h}:L_ystatementW_1 cc n a (q+1) h=fb cc n a (L_ystatementW_1 cc n a q) h:=rfl
def xh:Rd eQ kH:= .tl<| .o 0 0<| .l 51 1<| .i 52<| .i 53<| .h (.c (.Ob (.co 0<| .c (.Ar 1 1)<| .cl 8 .n)) (.c .Oy .n))
def yH (J:JJ):=fb cc n (fun(a,b,c,d,e,f,g)=>J (.exit 1) (tO 0 0<|tL 51 1 a<|tI 52 b<|tI 53 c<|tB 54 d .nil) (cG.mk e f g).hp)
def nX:df:=gH 26978715 xh (yH cc n) cw
def w5 {cc call}(hc:bA cc call)(n):bk (nX cc n) call n 1 (26978715,[0,51,52,53],wR,true):=cu bm hc aA
abbrev kI:=LD×Int×Int×Nat×LD×LD
def po (n:Nat)(j:LD×Int×Int×Bool×Nat×LD×LD->R)(Y:kI->R):kI->R:=fun(c,b,a,g,e,f)=>iL (aO a b) (cL (cp c a) fun o=>aP .i64 o fun i=>cc 27 [.box 0 0,pI i] (cG.mk g e f).hp fun h l=>aI h fun m=>ag m<|bh l fun d=>Y (c,b,ae .i64 (a+1),d.bu,d.ns,d.ou)) (j (c,b,a,aO a b,g,e,f))
def pn (cc n a q):=itL (po cc n a) q
def xi:Rd eQ kI:= .tl<| .o 0 0<| .l 108 1<| .i 109<| .i 110<| .h (.c (.Ob (.co 0<| .c (.Ar 1 1)<| .cl 8 .n)) (.c .Oy .n))
def yI (J:JJ):=po cc n (fun(a,b,c,d,e,f,g)=>J (.exit 3) (tO 0 0<|tL 108 1 a<|tI 109 b<|tI 110 c<|tB 111 d .nil) (cG.mk e f g).hp)
def nY:df:=gH 442023717483 xi (yI cc n) (nX cc n)
def w6 {cc call}(hc:bA cc call)(n):bk (nY cc n) call n 1 (442023717483,[0,108,109,110],wT,true):=cu bm hc aA
def cH (a:D)(b:List Ob):R:=aI a fun c=>ag c<|bh b fun d=>some (.tup [],d.hp)
def dM (cc:ab)(c:cG):R:=cc 22 [.box 0 0,pL 1 [Da.str [59]]] c.hp fun a b=>cH a b
def eX (a:D)(b:List Ob)(cc:ab):R:=aI a fun c=>ag c<|bh b fun d=>dM cc d
def dL (x:aK)(cc:ab)(c:cG):R:=iL (aS 0 (ae .i64 (x.Op - 15))) (iL (aO (ae .i64 (x.Op - 15)) ↑3) (cL ([Da.str [101,109,105,116],Da.str [114,101,109,105,110,100],Da.str [99,97,110,99,101,108]][Int.toNat (ae .i64 (x.Op - 15))]?) fun i=>dm i fun g=>cc 22 [.box 0 0,pL 1 [Da.str g]] c.hp fun a d=>aI a fun f=>ag f<|bh d fun h=>cc 62 [.box 0 0,pL 1 x.Kids] h.hp fun b e=>eX b e cc) (none)) (none)
def dN (x:aK)(cc:ab)(d:cG):R:=cL (cp x.Kids 0) fun e=>aP .i64 e fun b=>cc 27 [.box 0 0,pI b] d.hp fun a c=>eX a c cc
def bR (x:aK)(cc:ab)(c:cG)(n:Nat):R:=iL (eqI x.Op 18) (cc 22 [.box 0 0,pL 1 [Da.str [123]]] c.hp fun f v=>aI f fun C=>ag C<|bh v fun a=>L_ystatementW_1 cc n (fun(T,O,P,L,s,p,q)=>cc 22 [.box 0 0,pL 1 [Da.str [125]]] (cG.mk s p q).hp fun g w=>cH g w) n (x.Kids,↑x.Kids.length,0,a.bu,a.ns,a.ou)) (iL (eqI x.Op 8) (cc 23 [pI x.Value_Kind] [] fun h y=>dP h fun J=>dm J fun G=>ag y<|cc 22 [.box 0 0,pL 1 [Da.str [108,101,116],Da.str x.Name,Da.str [58],Da.str G,Da.str [61]]] c.hp fun i z=>aI i fun D=>ag D<|bh z fun H=>dN x cc H) (iL (eqI x.Op 9) (cc 22 [.box 0 0,pL 1 [Da.str x.Name,Da.str [61]]] c.hp fun j A=>aI j fun E=>ag E<|bh A fun I=>dN x cc I) (iL (eqI x.Op 10) (dN x cc c) (iL (eqI x.Op 13) (cc 22 [.box 0 0,pL 1 [Da.str [114,101,116,117,114,110]]] c.hp fun l B=>aI l fun F=>ag F<|bh B fun b=>pn cc n (fun(S,M,N,K,r,m,o)=>cc 22 [.box 0 0,pL 1 [Da.str [59]]] (cG.mk r m o).hp fun d t=>cH d t) n (x.Kids,↑x.Kids.length,0,b.bu,b.ns,b.ou)) (iL (eqI x.Op 14) (cc 22 [.box 0 0,pL 1 [Da.str [102,97,105,108]]] c.hp fun e u=>eX e u cc) (iL (eqI x.Op 15) (iL (eqI x.Op 15) (dL x cc c) (dM cc c)) (iL (eqI x.Op 16) (iL (eqI x.Op 16) (dL x cc c) (dM cc c)) (iL (eqI x.Op 17) (dL x cc c) (dM cc c)))))))))
def eW (x:aK)(cc:ab)(c:cG):R:=iL (aS 0 (ae .i64 (x.Op - 11))) (iL (aO (ae .i64 (x.Op - 11)) ↑2) (cL ([Da.str [105,102],Da.str [119,104,105,108,101]][Int.toNat (ae .i64 (x.Op - 11))]?) fun y=>dm y fun t=>cc 22 [.box 0 0,pL 1 [Da.str t]] c.hp fun f n=>aI f fun r=>ag r<|bh n fun w=>iL (aS 1 ↑x.Kids.length) (cc 62 [.box 0 0,pL 1 (List.take (Int.toNat 1 - 0) (List.drop 0 x.Kids))] w.hp fun g o=>aI g fun s=>ag s<|bh o fun u=>cL (cp x.Kids 1) fun z=>aP .i64 z fun h=>cc 27 [.box 0 0,pI h] u.hp fun b j=>aI b fun p=>ag p<|bh j fun a=>iL (eqI (↑x.Kids.length) 3) (cc 22 [.box 0 0,pL 1 [Da.str [101,108,115,101]]] a.hp fun d l=>aI d fun q=>ag q<|bh l fun v=>cL (cp x.Kids 2) fun A=>aP .i64 A fun i=>cc 27 [.box 0 0,pI i] v.hp fun e m=>cH e m) (some (.tup [],a.hp))) (none)) (none)) (none)
def aV (c:cG)(x:aK):R:=iL (eqI x.Op 11) (iL (eqI x.Op 11) (eW x cc c) (bR x cc c n)) (iL (eqI x.Op 12) (eW x cc c) (bR x cc c n))
def Dm (n:Nat)(c:cG)(x:aK):=iC (fun cc=>aV cc n c x) 63 [.box 0 0,.p x.e] c.hp 1 n bm (fun cc=>nY cc n) (fun hc=>bj (P3 (w5 hc n)) (bj (w6 hc n) aA))
def zR (n:Nat)(c:PwQ)(i:Int):R:=cL (cp c.mp i) fun m=>cJ m fun j=>cL (cp c.mp i) fun o=>cJ o fun l=>cc 23 [pI l.Kind] [] fun b f=>dP b fun p=>dm p fun h=>ag f<|cc 22 [.box 0 0,pL 1 [Da.str j.Name,Da.str [58],Da.str h]] (cG.mk c.bu c.ns c.ou).hp fun d e=>aI d fun g=>ag g<|bh e fun a=>some (.tup [],(ō.mk a.bu a.ns c.mn c.mp c.mr c.mo a.ou).hp)
def OH (n:Nat)(c:PwQ)(i:Int):=dA (fun cc=>zR cc n c i) 26 [pI i,.box 0 0,.box 3 0] c.hp 4 n bm
def oP:=b6 (fc 10).body 1 0
def G8:=b6 oP 27355 0
def G9:=b6 oP 27355 1
abbrev pW:=LD×Int×Int×LD×Int×Int×Nat×LD×LD×ba
def fO (n:Nat)(s:LD×Int×Int×LD×Int×Int×Bool×Nat×LD×LD×ba->R)(Y:pW->R):pW->R:=fun(h,f,g,d,c,b,l,i,j,m)=>iL (aO b c) (cL (cp d b) fun D=>cI D fun a=>cc 23 [pI a.Kind] [] fun o t=>dP o fun E=>dm E fun A=>ag t<|cc 22 [.box 0 0,pL 1 [Da.str [115,116,97,116,101],Da.str a.Name,Da.str [58],Da.str A,Da.str [61]]] (cG.mk l i j).hp fun p u=>aI p fun x=>ag x<|bh u fun B=>cc 24 [.box 0 0,.p (.agg [.int .i64 a.Init_Kind,.int .i64 a.Init_N,.str a.Init_S,.slice 1 a.Init_I,.slice 1 a.Init_L])] B.hp fun q v=>aI q fun y=>ag y<|bh v fun C=>cc 22 [.box 0 0,pL 1 [Da.str [59]]] C.hp fun r w=>aI r fun z=>ag z<|bh w fun e=>Y (h,f,g,d,c,ae .i64 (b+1),e.bu,e.ns,e.ou,m)) (s (h,f,g,d,c,b,aO b c,l,i,j,m))
def H4:Rd eQ pW:= .tl<| .o 3 0<| .o 5 3<| .l 16 3<| .i 17<| .i 18<| .l 28 7<| .i 29<| .i 30<| .h (.u (.Ob (.co 1 .n))<| .c (.Ob (.co 1<| .c (.Ar 2 1)<| .cl 8 .n)) (.c .Oy<| .c (.Ob (.cs<| .cl 7<| .cl 4 .n)) .n))
def JI (J:JJ):=fO cc n (fun(a,b,d,e,f,g,h,i,j,l,c)=>J (.exit 2) (tO 3 0<|tO 5 3<|tL 16 3 a<|tI 17 b<|tI 18 d<|tL 28 7 e<|tI 29 f<|tI 30 g<|tB 31 h .nil) [.box [.box 1 0],.box [.box 1 0,.arr 2 0 i 1,pL 8 j],(.byt l),c.b])
def vG:df:=gH 7171120795 H4 (JI cc n) cw
def HH {cc call}(hc:bA cc call)(n):bk (vG cc n) call n 0 (7171120795,[3,5,16,17,18,28,29,30],G8,true):=cu iU hc aA
abbrev pX:=LD×Int×Int×LD×Int×Int×Nat×LD×LD
def eF (n:Nat)(w:LD×Int×Int×LD×Int×Int×Bool×Nat×LD×LD->R)(Y:pX->R):pX->R:=fun(g,e,f,d,c,b,p,m,o)=>iL (aO b c) (cL (cp d b) fun K=>dR K fun h=>cc 22 [.box 0 0,pL 1 [Da.str [109,101,116,104,111,100],Da.str h.Name]] (cG.mk p m o).hp fun q x=>aI q fun D=>ag D<|bh x fun i=>cc 25 [.box 0 0,pI (↑h.Params.length),.fn 26 [.box 1 0,.box 2 0]] [.box [.box 0 0,.arr 3 0 i.bu 1,pL 8 i.ns],.box [.box 0 0],h.b,(.byt i.ou)] fun r y=>aI r fun E=>ag E<|R3 y fun a=>iL (!eqI a.mr 0) (cc 23 [pI a.mr] [] fun s z=>dP s fun L=>dm L fun I=>ag z<|cc 22 [.box 0 0,pL 1 [Da.str [58],Da.str I]] (cG.mk a.bu a.ns a.ou).hp fun t A=>aI t fun F=>ag F<|bh A fun J=>cc 27 [.box 0 0,pI (ae .i64 (↑a.mo.length - 1))] ({J with ns:=a.mo}:cG).hp fun u B=>aI u fun G=>ag G<|bh B fun j=>Y (g,e,f,d,c,ae .i64 (b+1),j.bu,j.ns,j.ou)) (cc 27 [.box 0 0,pI (ae .i64 (↑a.mo.length - 1))] (cG.mk a.bu a.mo a.ou).hp fun v C=>aI v fun H=>ag H<|bh C fun l=>Y (g,e,f,d,c,ae .i64 (b+1),l.bu,l.ns,l.ou))) (w (g,e,f,d,c,b,aO b c,p,m,o))
def H5:Rd eQ pX:= .tl<| .o 3 0<| .l 16 3<| .i 17<| .i 18<| .l 51 4<| .i 52<| .i 53<| .h (.u (.Ob (.co 1 .n))<| .c (.Ob (.co 1<| .c (.Ar 2 1)<| .cl 8 .n)) (.c .Oy .n))
def JK (J:JJ):=eF cc n (fun(a,b,c,d,e,f,g,h,i,j)=>J (.exit 4) (tO 3 0<|tL 16 3 a<|tI 17 b<|tI 18 c<|tL 51 4 d<|tI 52 e<|tI 53 f<|tB 54 g .nil) [.box [.box 1 0],.box [.box 1 0,.arr 2 0 h 1,pL 8 i],(.byt j)])
def vH:df:=gH 28684483227 H5 (JK cc n) (vG cc n)
def HI {cc call}(hc:bA cc call)(n):bk (vH cc n) call n 0 (28684483227,[3,16,17,18,51,52,53],G9,true):=cu iU hc aA
abbrev pY:=LD×Int×Int×Nat×LD×LD
def fP (s:LD×Int×Int×Bool×Nat×LD×LD->R)(Y:pY->R):pY->R:=fun(d,b,a,i,g,h)=>iL (aO a b) (cL (cp d a) fun F=>bC F fun c=>cc 22 [.box 0 0,pL 1 [Da.str [97,99,116,111,114],Da.str c.Name,Da.str [123]]] (cG.mk i g h).hp fun l B=>aI l fun D=>ag D<|bh B fun e=>itL (fO cc n (fun(t,o,p,M,I,J,G,z,u,v,j)=>itL (eF cc n (fun(w,q,r,N,K,L,H,A,x,y)=>cc 22 [.box 0 0,pL 1 [Da.str [125]]] (cG.mk A x y).hp fun m C=>aI m fun E=>ag E<|bh C fun f=>Y (w,q,ae .i64 (r+1),f.bu,f.ns,f.ou))) n (t,o,p,j.Methods,↑j.Methods.length,0,z,u,v))) n (d,b,a,c.Fields,↑c.Fields.length,0,e.bu,e.ns,e.ou,c)) (s (d,b,a,aO a b,i,g,h))
def H6:Rd eQ pY:= .tl<| .o 3 0<| .l 16 3<| .i 17<| .i 18<| .h (.u (.Ob (.co 1 .n))<| .c (.Ob (.co 1<| .c (.Ar 2 1)<| .cl 8 .n)) (.c .Oy .n))
def JL (J:JJ):=fP cc n (fun(a,b,c,d,e,f,g)=>J (.exit 0) (tO 3 0<|tL 16 3 a<|tI 17 b<|tI 18 c<|tB 19 d .nil) [.box [.box 1 0],.box [.box 1 0,.arr 2 0 e 1,pL 8 f],(.byt g)])
def vJ:df:=lpP adP cc 27355 H6 (JL cc n) (vH cc n)
def HJ {cc call}(hc:bA cc call)(n):bk (vJ cc n) call n 0 (27355,[3,16,17,18],oP,true):=aea iU hc (bj (P3 (HH hc n)) (bj (HI hc n) aA))
def DW (a:bL):R:=cc 9 [.p a.e] [] fun g E=>dP g fun O=>af O fun f=>ag E<|iL (!f) (some (pS [],[])) (pl n fun H=>iL (aO 0 ↑a.Types.length) (cL (cp a.Types 0) fun P=>bC P fun b=>cc 22 [.box 0 0,pL 1 [Da.str [97,99,116,111,114],Da.str b.Name,Da.str [123]]] (zg.mk []).hp fun j F=>aI j fun I=>ag I<|bh F fun c=>itL (fO cc n (fun(t,m,o,a3,X,Z,T,A,u,v,e)=>itL (eF cc n (fun(w,p,q,a4,a0,a1,U,B,x,y)=>cc 22 [.box 0 0,pL 1 [Da.str [125]]] (cG.mk B x y).hp fun l G=>aI l fun J=>ag J<|bh G fun d=>itL (fP cc n (fun(a2,V,W,S,z,r,s)=>cc 28 [.box 0 0] (cG.mk z r s).hp fun h C=>dP h fun M=>dm M fun K=>aaK C fun a5=>some (pS K,[]))) H (w,p,ae .i64 (q+1),d.bu,d.ns,d.ou))) n (t,m,o,e.Methods,↑e.Methods.length,0,A,u,v))) n (a.Types,↑a.Types.length,0,b.Fields,↑b.Fields.length,0,c.bu,c.ns,c.ou,b)) (cc 28 [.box 0 0] (zg.mk []).hp fun i D=>dP i fun N=>dm N fun L=>aaI D fun a6=>some (pS L,[])))
def UB (n:Nat)(a:bL):=iC (fun cc=>DW cc n a) 10 [.p a.e] [] 0 n iU (fun cc=>vJ cc n) (fun hc=>bj (HJ hc n) aA)
def zP (n:Nat)(b:LN):R:=cc 7 [] [] fun h x=>dP h fun T=>af T fun e=>ag x<|iL (!e) rF (iL (aO 3000 ↑b.length) rT (cc 11 [pS b] [] fun t C=>aI t fun J=>bP J fun u K=>dP u fun M=>jO M fun a=>bP K fun i D=>dP i fun N=>aP .i64 N fun c=>bP D fun j E=>dP j fun O=>aP .i64 O fun v=>ag E<|ag C<|iL (!eqI v 0) (iL (aS 0 c) (iL (aS c ↑b.length) (some (pB (eqI (↑a.Types.length) 0),[])) rF) rF) (cc 10 [.p a.e] [] fun l y=>dP l fun P=>dm P fun d=>ag y<|cc 11 [pS d] [] fun m z=>aI m fun F=>bP F fun o G=>dP o fun S=>jO S fun L=>bP G fun p H=>dP p fun U=>aP .i64 U fun Z=>bP H fun q I=>dP q fun V=>aP .i64 V fun w=>ag I<|ag z<|cc 9 [.p a.e] [] fun r A=>dP r fun W=>af W fun f=>ag A<|iL f (iL (aO 6000 ↑d.length) rT (iL (eqI w 0) (cc 12 [.p a.e,.p L.e] [] fun s B=>dP s fun X=>af X fun g=>bF [] B<|some (pB g,[])) rF)) rF)))
def OG (n:Nat)(a:LN):=dA (fun cc=>zP cc n a) 4 [pS a] [] 0 n ao
end
end Go.Ab
