import Derived.Test.YtbgddkffhndjcaaGreatDoorDcA
import Derived.Test.YtbgddkffhndjcaaGreatDoorAwZ
import Derived.KernelRfl
set_option linter.all false
namespace Go.Ab
open Go
set_option maxRecDepth 100000
noncomputable section
variable (cc:ab)(n:Nat)
def L0:=b6 (fc 93).body 1 0
abbrev su:=LD×LD×Int×Int
def fT (cc:ab)(n:Nat)(g:R)(h:LD×LD×Int×Int×Bool->R)(Y:su->R):su->R:=fun(c,d,b,a)=>iL (aO a b) (cL (cp c a) fun i=>aP .i64 i fun e=>cL (cp d a) fun j=>aP .i64 j fun f=>iL (!eqI e f) (g) (Y (c,d,b,ae .i64 (a+1)))) (h (c,d,b,a,aO a b))
def Ni:Rd eQ su:= .tl<| .l 0 1<| .l 1 1<| .i 12<| .i 13<| .h .n
def Oz (J:JJ):=fT cc n (J .ret (tB 4 false .nil) []) (fun(a,b,c,d,e)=>J (.exit 0) (tL 0 1 a<|tL 1 1 b<|tI 12 c<|tI 13 d<|tB 14 e .nil) [])
def yz:df:=gH 1691 Ni (Oz cc n) cw
def MH {cc call}(hc:bA cc call)(n):bk (yz cc n) call n 0 (1691,[0,1,12,13],L0,true):=cu bm hc aA
def Ai (a:LD)(b:LD):R:=iL (!eqI ↑a.length ↑b.length) rF (itL (fT cc n rF (fun(g,f,d,e,c)=>rT)) n (a,b,↑a.length,0))
def J3 (n:Nat)(a:LD)(b:LD):=iC (fun cc=>Ai cc n a b) 93 [pL 1 a,pL 1 b] [] 0 n bm (fun cc=>yz cc n) (fun hc=>bj (MH hc n) aA)
def L1:=b6 (fc 94).body 1 0
abbrev sw:=LD×LD×Int×Int
def fU (cc:ab)(n:Nat)(e:R)(f:LD×LD×Int×Int×Bool->R)(Y:sw->R):sw->R:=fun(c,d,b,a)=>iL (aO a b) (cL (cp c a) fun i=>dm i fun g=>cL (cp d a) fun j=>dm j fun h=>iL (!bv g h) (e) (Y (c,d,b,ae .i64 (a+1)))) (f (c,d,b,a,aO a b))
def Nj:Rd eQ sw:= .tl<| .l 0 1<| .l 1 1<| .i 12<| .i 13<| .h .n
def OA (J:JJ):=fU cc n (J .ret (tB 4 false .nil) []) (fun(a,b,c,d,e)=>J (.exit 0) (tL 0 1 a<|tL 1 1 b<|tI 12 c<|tI 13 d<|tB 14 e .nil) [])
def yA:df:=gH 1691 Nj (OA cc n) cw
def MI {cc call}(hc:bA cc call)(n):bk (yA cc n) call n 0 (1691,[0,1,12,13],L1,true):=cu oL hc aA
def Aj (a:LD)(b:LD):R:=iL (!eqI ↑a.length ↑b.length) rF (itL (fU cc n rF (fun(g,f,d,e,c)=>rT)) n (a,b,↑a.length,0))
def J4 (n:Nat)(a:LD)(b:LD):=iC (fun cc=>Aj cc n a b) 94 [pL 1 a,pL 1 b] [] 0 n oL (fun cc=>yA cc n) (fun hc=>bj (MI hc n) aA)
def zS (n:Nat)(a:aB)(b:aB):R:=iL (eqI a.Kind b.Kind) (iL (eqI a.N b.N) (iL (bv a.S b.S) (cc 93 [pL 1 a.I,pL 1 b.I] [] fun e g=>dP e fun i=>af i fun c=>ag g<|iL c (cc 94 [pL 1 a.L,pL 1 b.L] [] fun f h=>dP f fun j=>af j fun d=>ag h<|some (pB d,[])) rF) rF) rF) rF
def JV (n:Nat)(a:aB)(b:aB):=dA (fun cc=>zS cc n a b) 64 [.p a.e,.p b.e] [] 0 n bm
def FM (n:Nat)(d:aB)(e:aB):R:=cc 64 [.p d.e,.p e.e] [] fun b c=>dP b fun f=>af f fun a=>ag c<|some (pB a,[])
def Rx (n:Nat)(a:aB)(b:aB):=dA (fun cc=>FM cc n a b) 30 [.p a.e,.p b.e] [] 0 n bm
def VM:=b6 (fc 31).body 1 0
abbrev Au:=LD×LD×Int×Int
def kh (cc:ab)(n:Nat)(g:R)(h:LD×LD×Int×Int×Bool->R)(Y:Au->R):Au->R:=fun(c,d,b,a)=>iL (aO a b) (cL (cp c a) fun i=>aP .i64 i fun e=>cL (cp d a) fun j=>aP .i64 j fun f=>iL (!eqI e f) (g) (Y (c,d,b,ae .i64 (a+1)))) (h (c,d,b,a,aO a b))
def Wu:Rd eQ Au:= .tl<| .l 0 1<| .l 1 1<| .i 12<| .i 13<| .h .n
def XQ (J:JJ):=kh cc n (J .ret (tB 4 false .nil) []) (fun(a,b,c,d,e)=>J (.exit 0) (tL 0 1 a<|tL 1 1 b<|tI 12 c<|tI 13 d<|tB 14 e .nil) [])
def Fm:df:=gH 1691 Wu (XQ cc n) cw
def V4 {cc call}(hc:bA cc call)(n):bk (Fm cc n) call n 0 (1691,[0,1,12,13],VM,true):=cu bm hc aA
def N4 (a:LD)(b:LD):R:=iL (!eqI ↑a.length ↑b.length) rF (itL (kh cc n rF (fun(g,f,d,e,c)=>rT)) n (a,b,↑a.length,0))
def X4 (n:Nat)(a:LD)(b:LD):=iC (fun cc=>N4 cc n a b) 31 [pL 1 a,pL 1 b] [] 0 n bm (fun cc=>Fm cc n) (fun hc=>bj (V4 hc n) aA)
def VP:=b6 (fc 34).body 1 0
abbrev Ay:=LD×LD×Int×Int
def qk (cc:ab)(n:Nat)(e:R)(h:LD×LD×Int×Int×Bool->R)(Y:Ay->R):Ay->R:=fun(c,d,b,a)=>iL (aO a b) (cL (cp c a) fun i=>cJ i fun f=>cL (cp d a) fun j=>cJ j fun g=>iL (bv f.Name g.Name) (iL (eqI f.Kind g.Kind) (Y (c,d,b,ae .i64 (a+1))) (e)) (e)) (h (c,d,b,a,aO a b))
def Wx:Rd eQ Ay:= .tl<| .l 0 2<| .l 1 2<| .i 12<| .i 13<| .h .n
def XT (J:JJ):=qk cc n (J .ret (tB 4 false .nil) []) (fun(a,b,c,d,e)=>J (.exit 0) (tL 0 2 a<|tL 1 2 b<|tI 12 c<|tI 13 d<|tB 14 e .nil) [])
def Fq:df:=gH 1691 Wx (XT cc n) cw
def V7 {cc call}(hc:bA cc call)(n):bk (Fq cc n) call n 0 (1691,[0,1,12,13],VP,true):=cu bm hc aA
def XH (a:LD)(b:LD):R:=iL (!eqI ↑a.length ↑b.length) rF (itL (qk cc n rF (fun(g,f,d,e,c)=>rT)) n (a,b,↑a.length,0))
def abt (n:Nat)(a:LD)(b:LD):=iC (fun cc=>XH cc n a b) 34 [pL 2 a,pL 2 b] [] 0 n bm (fun cc=>Fq cc n) (fun hc=>bj (V7 hc n) aA)
def I8 (n:Nat)(a:aK)(b:aK):R:=iL (eqI a.Op b.Op) (iL (bv a.Name b.Name) (cc 30 [.p (.agg [.int .i64 a.Value_Kind,.int .i64 a.Value_N,.str a.Value_S,.slice 1 a.Value_I,.slice 1 a.Value_L]),.p (.agg [.int .i64 b.Value_Kind,.int .i64 b.Value_N,.str b.Value_S,.slice 1 b.Value_I,.slice 1 b.Value_L])] [] fun e g=>dP e fun i=>af i fun c=>ag g<|iL c (cc 31 [pL 1 a.Kids,pL 1 b.Kids] [] fun f h=>dP f fun j=>af j fun d=>bF [] h<|some (pB d,[])) rF) rF) rF
def X8 (n:Nat)(a:aK)(b:aK):=dA (fun cc=>I8 cc n a b) 29 [.p a.e,.p b.e] [] 0 n bm
def VO:=b6 (fc 35).body 1 0
abbrev Ax:=LD×LD×Int×Int
def qj (n:Nat)(i:aK×aK->R)(j:LD×LD×Int×Int×Bool->R)(Y:Ax->R):Ax->R:=fun(c,d,b,a)=>iL (aO a b) (cL (cp d a) fun o=>bn o fun e=>cL (cp c a) fun p=>bn p fun f=>cc 29 [.p e.e,.p f.e] [] fun h l=>dP h fun m=>af m fun g=>bF [] l<|iL (!g) (i (e,f)) (Y (c,d,b,ae .i64 (a+1)))) (j (c,d,b,a,aO a b))
def Ww:Rd eQ Ax:= .tl<| .l 1 8<| .v 2 (.P (.FP 29 .n))<| .l 15 8<| .i 16<| .i 17<| .h .n
def XS (J:JJ):=qj cc n (fun(a,b)=>J .ret (tB 6 false .nil) [a.b,b.b]) (fun(a,b,c,d,e)=>J (.exit 0) (tL 1 8 a<| .cons 2 (.p (.fn 29 []))<|tL 15 8 b<|tI 16 c<|tI 17 d<|tB 18 e .nil) [])
def Fp:df:=gH 1691 Ww (XS cc n) cw
def V6 {cc call}(hc:bA cc call)(n):bk (Fp cc n) call n 0 (1691,[1,2,15,16,17],VO,true):=cu bm hc aA
def XG (l:LD)(m:LD):R:=iL (!eqI ↑l.length ↑m.length) rF (itL (qj cc n (fun(f,g)=>rF) (fun(d,e,b,c,a)=>rT)) n (m,l,↑l.length,0))
def abs (n:Nat)(l:LD)(m:LD):=iC (fun cc=>XG cc n l m) 35 [pL 8 l,pL 8 m,.p (.fn 29 [])] [] 0 n bm (fun cc=>Fp cc n) (fun hc=>bj (V6 hc n) aA)
def I6 (n:Nat)(a:cb)(b:cb):R:=iL (bv a.Name b.Name) (iL (eqI a.Kind b.Kind) (cc 30 [.p (.agg [.int .i64 a.Init_Kind,.int .i64 a.Init_N,.str a.Init_S,.slice 1 a.Init_I,.slice 1 a.Init_L]),.p (.agg [.int .i64 b.Init_Kind,.int .i64 b.Init_N,.str b.Init_S,.slice 1 b.Init_I,.slice 1 b.Init_L])] [] fun d e=>dP d fun f=>af f fun c=>ag e<|some (pB c,[])) rF) rF
def X6 (n:Nat)(a:cb)(b:cb):=dA (fun cc=>I6 cc n a b) 32 [.p a.e,.p b.e] [] 0 n bm
def VL:=b6 (fc 38).body 1 0
abbrev As:=LD×LD×Int×Int
def qh (n:Nat)(i:cb×cb->R)(j:LD×LD×Int×Int×Bool->R)(Y:As->R):As->R:=fun(c,d,b,a)=>iL (aO a b) (cL (cp d a) fun o=>cI o fun e=>cL (cp c a) fun p=>cI p fun f=>cc 32 [.p e.e,.p f.e] [] fun h l=>dP h fun m=>af m fun g=>bF [] l<|iL (!g) (i (e,f)) (Y (c,d,b,ae .i64 (a+1)))) (j (c,d,b,a,aO a b))
def Wt:Rd eQ As:= .tl<| .l 1 7<| .v 2 (.P (.FP 32 .n))<| .l 15 7<| .i 16<| .i 17<| .h .n
def XP (J:JJ):=qh cc n (fun(a,b)=>J .ret (tB 6 false .nil) [a.b,b.b]) (fun(a,b,c,d,e)=>J (.exit 0) (tL 1 7 a<| .cons 2 (.p (.fn 32 []))<|tL 15 7 b<|tI 16 c<|tI 17 d<|tB 18 e .nil) [])
def Fl:df:=gH 1691 Wt (XP cc n) cw
def V3 {cc call}(hc:bA cc call)(n):bk (Fl cc n) call n 0 (1691,[1,2,15,16,17],VL,true):=cu bm hc aA
def XE (l:LD)(m:LD):R:=iL (!eqI ↑l.length ↑m.length) rF (itL (qh cc n (fun(f,g)=>rF) (fun(d,e,b,c,a)=>rT)) n (m,l,↑l.length,0))
def abq (n:Nat)(l:LD)(m:LD):=iC (fun cc=>XE cc n l m) 38 [pL 7 l,pL 7 m,.p (.fn 32 [])] [] 0 n bm (fun cc=>Fl cc n) (fun hc=>bj (V3 hc n) aA)
def I7 (n:Nat)(x:bf)(y:bf):R:=iL (bv x.Name y.Name) (iL (eqI x.Result y.Result) (cc 34 [pL 2 x.Params,pL 2 y.Params] [] fun c e=>dP c fun g=>af g fun a=>bF [] e<|iL a (cc 35 [pL 8 x.Nodes,pL 8 y.Nodes,.p (.fn 29 [])] [] fun d f=>dP d fun h=>af h fun b=>bF [] f<|some (pB b,[.box [.p (.fn 29 [])]])) (some (pB false,[.box [.p (.fn 29 [])]]))) (some (pB false,[.box [.p (.fn 29 [])]]))) (some (pB false,[.box [.p (.fn 29 [])]]))
def X7 (n:Nat)(x:bf)(y:bf):=dA (fun cc=>I7 cc n x y) 33 [.p x.e,.p y.e,.box 0 0] [.box [.p (.fn 29 [])]] 1 n iU
def VN:=b6 (fc 39).body 1 0
abbrev Aw:=LD×LD×Int×Int
def qi (n:Nat)(i:bf×bf->R)(j:LD×LD×Int×Int×Bool->R)(Y:Aw->R):Aw->R:=fun(c,d,b,a)=>iL (aO a b) (cL (cp d a) fun o=>dR o fun e=>cL (cp c a) fun p=>dR p fun f=>cc 33 [.p e.e,.p f.e,.box 0 0] [.box [.p (.fn 29 [])]] fun h l=>dP h fun m=>af m fun g=>bF [.box [.p (.fn 29 [])]] l<|iL (!g) (i (e,f)) (Y (c,d,b,ae .i64 (a+1)))) (j (c,d,b,a,aO a b))
def Wv:Rd eQ Aw:= .tl<| .l 1 4<| .v 2 (.F 33 (.co 0 .n))<| .l 15 4<| .i 16<| .i 17<| .h (.u (.Ob (.u (.P (.FP 29 .n)) .n)) .n)
def XR (J:JJ):=qi cc n (fun(a,b)=>J .ret (tB 6 false .nil) [.box [.p (.fn 29 [])],a.b,b.b]) (fun(a,b,c,d,e)=>J (.exit 0) (tL 1 4 a<| .cons 2 (.fn 33 [(.box 0 0)])<|tL 15 4 b<|tI 16 c<|tI 17 d<|tB 18 e .nil) [.box [.p (.fn 29 [])]])
def Fo:df:=gH 1691 Wv (XR cc n) cw
def V5 {cc call}(hc:bA cc call)(n):bk (Fo cc n) call n 1 (1691,[1,2,15,16,17],VN,true):=cu iU hc aA
def XF (l:LD)(m:LD):R:=iL (!eqI ↑l.length ↑m.length) (some (pB false,[.box [.p (.fn 29 [])]])) (itL (qi cc n (fun(f,g)=>some (pB false,[.box [.p (.fn 29 [])]])) (fun(d,e,b,c,a)=>some (pB true,[.box [.p (.fn 29 [])]]))) n (m,l,↑l.length,0))
def abr (n:Nat)(l:LD)(m:LD):=iC (fun cc=>XF cc n l m) 39 [pL 4 l,pL 4 m,.fn 33 [.box 0 0]] [.box [.p (.fn 29 [])]] 1 n iU (fun cc=>Fo cc n) (fun hc=>bj (V5 hc n) aA)
def I9 (n:Nat)(x:ba)(y:ba):R:=iL (bv x.Name y.Name) (cc 38 [pL 7 x.Fields,pL 7 y.Fields,.p (.fn 32 [])] [] fun c e=>dP c fun g=>af g fun a=>bF [] e<|iL a (cc 39 [pL 4 x.Methods,pL 4 y.Methods,.fn 33 [.box 0 0]] [.box [.p (.fn 29 [])]] fun d f=>dP d fun h=>af h fun b=>bF [.box [.p (.fn 29 [])]] f<|some (pB b,[.box [.p (.fn 32 [])],.box [.fn 33 [.box 2 0]],.box [.p (.fn 29 [])]])) (some (pB false,[.box [.p (.fn 32 [])],.box [.fn 33 [.box 2 0]],.box [.p (.fn 29 [])]]))) (some (pB false,[.box [.p (.fn 32 [])],.box [.fn 33 [.box 2 0]],.box [.p (.fn 29 [])]]))
def X9 (n:Nat)(x:ba)(y:ba):=dA (fun cc=>I9 cc n x y) 37 [.p x.e,.p y.e,.box 0 0,.box 1 0] [.box [.p (.fn 32 [])],.box [.fn 33 [.box 2 0]],.box [.p (.fn 29 [])]] 3 n iU
def VQ:=b6 (fc 36).body 1 0
abbrev Az:=LD×LD×Int×Int
def ql (n:Nat)(i:ba×ba->R)(j:LD×LD×Int×Int×Bool->R)(Y:Az->R):Az->R:=fun(c,d,b,a)=>iL (aO a b) (cL (cp d a) fun o=>bC o fun e=>cL (cp c a) fun p=>bC p fun f=>cc 37 [.p e.e,.p f.e,.box 0 0,.box 1 0] [.box [.p (.fn 32 [])],.box [.fn 33 [.box 2 0]],.box [.p (.fn 29 [])]] fun h l=>dP h fun m=>af m fun g=>bF [.box [.p (.fn 32 [])],.box [.fn 33 [.box 2 0]],.box [.p (.fn 29 [])]] l<|iL (!g) (i (e,f)) (Y (c,d,b,ae .i64 (a+1)))) (j (c,d,b,a,aO a b))
def Wy:Rd eQ Az:= .tl<| .l 1 3<| .v 2 (.F 37 (.co 0<| .co 1 .n))<| .l 15 3<| .i 16<| .i 17<| .h (.u (.Ob (.u (.P (.FP 32 .n)) .n)) (.u (.Ob (.u (.F 33 (.co 2 .n)) .n)) (.u (.Ob (.u (.P (.FP 29 .n)) .n)) .n)))
def XU (J:JJ):=ql cc n (fun(a,b)=>J .ret (tB 6 false .nil) [.box [.p (.fn 32 [])],.box [.fn 33 [.box 2 0]],.box [.p (.fn 29 [])],a.b,b.b]) (fun(a,b,c,d,e)=>J (.exit 0) (tL 1 3 a<| .cons 2 (.fn 37 [(.box 0 0),(.box 1 0)])<|tL 15 3 b<|tI 16 c<|tI 17 d<|tB 18 e .nil) [.box [.p (.fn 32 [])],.box [.fn 33 [.box 2 0]],.box [.p (.fn 29 [])]])
def Fs:df:=gH 1691 Wy (XU cc n) cw
def V8 {cc call}(hc:bA cc call)(n):bk (Fs cc n) call n 3 (1691,[1,2,15,16,17],VQ,true):=cu iU hc aA
def XI (l:LD)(m:LD):R:=iL (!eqI ↑l.length ↑m.length) (some (pB false,[.box [.p (.fn 32 [])],.box [.fn 33 [.box 2 0]],.box [.p (.fn 29 [])]])) (itL (ql cc n (fun(f,g)=>some (pB false,[.box [.p (.fn 32 [])],.box [.fn 33 [.box 2 0]],.box [.p (.fn 29 [])]])) (fun(d,e,b,c,a)=>some (pB true,[.box [.p (.fn 32 [])],.box [.fn 33 [.box 2 0]],.box [.p (.fn 29 [])]]))) n (m,l,↑l.length,0))
def abu (n:Nat)(l:LD)(m:LD):=iC (fun cc=>XI cc n l m) 36 [pL 3 l,pL 3 m,.fn 37 [.box 0 0,.box 1 0]] [.box [.p (.fn 32 [])],.box [.fn 33 [.box 2 0]],.box [.p (.fn 29 [])]] 3 n iU (fun cc=>Fs cc n) (fun hc=>bj (V8 hc n) aA)
def Rc (n:Nat)(d:bL)(e:bL):R:=cc 36 [pL 3 d.Types,pL 3 e.Types,.fn 37 [.box 0 0,.box 1 0]] [.box [.p (.fn 32 [])],.box [.fn 33 [.box 2 0]],.box [.p (.fn 29 [])]] fun b c=>dP b fun f=>af f fun a=>bF [.box [.p (.fn 32 [])],.box [.fn 33 [.box 2 0]],.box [.p (.fn 29 [])]] c<|some (pB a,[])
def Ŭ (n:Nat)(a:bL)(b:bL):=dA (fun cc=>Rc cc n a b) 12 [.p a.e,.p b.e] [] 0 n iU
def C8 (cc:ab)(n:Nat)(c:zg):R:=some (.tup [],(PwC.mk c.ns).hp)
def Dh (n:Nat)(c:zg):=dA (fun cc=>C8 cc n c) 89 [.box 0 0] c.hp 1 n bm
def C9 (cc:ab)(n:Nat)(c:cG):R:=some (.tup [],c.hp)
def Di (n:Nat)(c:cG):=dA (fun cc=>C9 cc n c) 89 [.box 0 0] c.hp 2 n bm
def pj (n:Nat)(c:zg)(s:LN):R:=cc 89 [.box 0 0] c.hp fun a d=>aI a fun e=>ag e<|aaJ d fun f=>iL (cO (0+List.length (List.map (fun b=>Da.int .u8 (Int.ofNat b)) s)) 1) (some (.tup [pI (↑s.length),.p .nilif],(cG.mk (List.length (List.map (fun b=>Da.int .u8 (Int.ofNat b)) s)) f.ns (List.map (fun b=>Da.int .u8 (Int.ofNat b)) s)).hp)) (none)
def yJ (n:Nat)(c:zg)(s:LN):=dA (fun cc=>pj cc n c s) 56 [.box 0 0,pS s] c.hp 1 n bm
def pm (n:Nat)(c:cG)(s:LN):R:=cc 89 [.box 0 0] c.hp fun d e=>aI d fun f=>ag f<|bh e fun a=>iL (Nat.beq a.bu (List.length a.ou)) (iL (cO (List.length a.ou+List.length (List.map (fun b=>Da.int .u8 (Int.ofNat b)) s)) 1) (some (.tup [pI (↑s.length),.p .nilif],(cG.mk (List.length (a.ou++List.map (fun b=>Da.int .u8 (Int.ofNat b)) s)) a.ns (a.ou++List.map (fun b=>Da.int .u8 (Int.ofNat b)) s)).hp)) (none)) (none)
def yL (n:Nat)(c:cG)(s:LN):=dA (fun cc=>pm cc n c s) 56 [.box 0 0,pS s] c.hp 1 n bm
def tN (n:Nat)(c:cG)(b:Int):R:=cc 89 [.box 0 0] c.hp fun d e=>aI d fun f=>ag f<|bh e fun a=>iL (Nat.beq a.bu (List.length a.ou)) (iL (cO (List.length a.ou+List.length [Da.int .u8 b]) 1) (some (.p .nilif,(cG.mk (List.length (a.ou++[Da.int .u8 b])) a.ns (a.ou++[Da.int .u8 b])).hp)) (none)) (none)
def FX (n:Nat)(c:cG)(b:Int):=dA (fun cc=>tN cc n c b) 57 [.box 0 0,.p (.int .u8 b)] c.hp 1 n bm
def N5 (cc:ab)(n:Nat)(c:zg):R:=some (pS [],c.hp)
def OI (n:Nat)(c:zg):=dA (fun cc=>N5 cc n c) 28 [.box 0 0] c.hp 1 n bm
def zT (cc:ab)(n:Nat)(c:cG):R:=iL (Nat.beq c.bu 0) (none) (iL (Nat.beq 0 0&&(aS 1 ↑c.bu&&aS (↑c.bu) 9223372036854775807&&Nat.ble (0+Int.toNat ↑c.bu) (List.length c.ou))) (cL (cX (List.take (Int.toNat ↑c.bu) (List.drop 0 c.ou))) fun a=>some (pS a,(PwD.mk c.bu c.ns).hp)) (none))
def OJ (n:Nat)(c:cG):=dA (fun cc=>zT cc n c) 28 [.box 0 0] c.hp 2 n bm
def PU:=b6 (fc 22).body 1 0
abbrev qY:=LD×Int×Int×Nat×LD×LD
def lr (b:D)(f:List Ob)(Y:qY->R)(e:LD)(c:Int)(d:Int):R:=dk (.p .nilif) b<|bh f fun a=>Y (e,c,ae .i64 (d+1),a.bu,a.ns,a.ou)
def Ea (n:Nat)(t:LD×Int×Int×Bool×Nat×LD×LD->R)(Y:qY->R):qY->R:=fun(c,b,a,h,f,g)=>iL (aO a b) (cL (cp c a) fun E=>dm E fun d=>cc 56 [.box 0 0,pS d] (cG.mk h f g).hp fun i u=>aI i fun B=>bP B fun j C=>dP j fun F=>aP .i64 F fun G=>bP C fun l D=>dk (.p .nilif) l<|ag D<|bh u fun e=>iL (bv d [123]) (iL (bv d [123]) (cc 57 [.box 0 0,.p (.int .u8 10)] e.hp fun m v=>lr m v Y c b a) (cc 57 [.box 0 0,.p (.int .u8 32)] e.hp fun o w=>lr o w Y c b a)) (iL (bv d [125]) (iL (bv d [125]) (cc 57 [.box 0 0,.p (.int .u8 10)] e.hp fun p x=>lr p x Y c b a) (cc 57 [.box 0 0,.p (.int .u8 32)] e.hp fun q y=>lr q y Y c b a)) (iL (bv d [59]) (cc 57 [.box 0 0,.p (.int .u8 10)] e.hp fun r z=>lr r z Y c b a) (cc 57 [.box 0 0,.p (.int .u8 32)] e.hp fun s A=>lr s A Y c b a)))) (t (c,b,a,aO a b,h,f,g))
def ib (cc n a q):=itL (Ea cc n a) q
def Qv:Rd eQ qY:= .tl<| .o 0 0<| .l 6 1<| .i 7<| .i 8<| .h (.c (.Ob (.co 0<| .c (.Ar 1 1)<| .cl 8 .n)) (.c .Oy .n))
def Uk (J:JJ):=Ea cc n (fun(a,b,c,d,e,f,g)=>J (.exit 0) (tO 0 0<|tL 6 1 a<|tI 7 b<|tI 8 c<|tB 9 d .nil) (cG.mk e f g).hp)
def CF:df:=lpP adQ cc 27 Qv (Uk cc n) cw
def Qb {cc call}(hc:bA cc call)(n):bk (CF cc n) call n 1 (27,[0,6,7,8],PU,true):=aea oL hc aA
def Rk (c:zg)(s:LN)(t:LN)(u:LN):R:=pl n fun a=>cc 56 [.box 0 0,pS s] c.hp fun j S=>aI j fun Z=>bP Z fun m r5=>dP m fun x6=>aP .i64 x6 fun i7=>bP r5 fun r r9=>dk (.p .nilif) r<|ag r9<|bh S fun b=>iL (bv s [123]) (iL (bv s [123]) (cc 57 [.box 0 0,.p (.int .u8 10)] b.hp fun l P=>dk (.p .nilif) l<|bh P fun d=>ib cc n (fun(c3,b1,b2,a4,K,z,A)=>some (.tup [],(cG.mk K z A).hp)) a ([Da.str s,Da.str t,Da.str u],↑(List.length [Da.str s,Da.str t,Da.str u]),1,d.bu,d.ns,d.ou)) (cc 57 [.box 0 0,.p (.int .u8 32)] b.hp fun o T=>dk (.p .nilif) o<|bh T fun e=>ib cc n (fun(c4,b3,b4,a5,L,B,C)=>some (.tup [],(cG.mk L B C).hp)) a ([Da.str s,Da.str t,Da.str u],↑(List.length [Da.str s,Da.str t,Da.str u]),1,e.bu,e.ns,e.ou))) (iL (bv s [125]) (iL (bv s [125]) (cc 57 [.box 0 0,.p (.int .u8 10)] b.hp fun p U=>dk (.p .nilif) p<|bh U fun f=>ib cc n (fun(c5,b6,b7,a6,M,D,E)=>some (.tup [],(cG.mk M D E).hp)) a ([Da.str s,Da.str t,Da.str u],↑(List.length [Da.str s,Da.str t,Da.str u]),1,f.bu,f.ns,f.ou)) (cc 57 [.box 0 0,.p (.int .u8 32)] b.hp fun q V=>dk (.p .nilif) q<|bh V fun g=>ib cc n (fun(c6,b8,b9,a7,N,F,G)=>some (.tup [],(cG.mk N F G).hp)) a ([Da.str s,Da.str t,Da.str u],↑(List.length [Da.str s,Da.str t,Da.str u]),1,g.bu,g.ns,g.ou))) (iL (bv s [59]) (cc 57 [.box 0 0,.p (.int .u8 10)] b.hp fun v W=>dk (.p .nilif) v<|bh W fun h=>ib cc n (fun(c7,c0,c1,a8,O,H,I)=>some (.tup [],(cG.mk O H I).hp)) a ([Da.str s,Da.str t,Da.str u],↑(List.length [Da.str s,Da.str t,Da.str u]),1,h.bu,h.ns,h.ou)) (cc 57 [.box 0 0,.p (.int .u8 32)] b.hp fun w X=>dk (.p .nilif) w<|bh X fun i=>ib cc n (fun(c2,a9,b0,a3,J,x,y)=>some (.tup [],(cG.mk J x y).hp)) a ([Da.str s,Da.str t,Da.str u],↑(List.length [Da.str s,Da.str t,Da.str u]),1,i.bu,i.ns,i.ou))))
def ų (n:Nat)(c:zg)(s:LN)(t:LN)(u:LN):=iC (fun cc=>Rk cc n c s t u) 22 [.box 0 0,pL 1 [.str s,.str t,.str u]] c.hp 1 n oL (fun cc=>CF cc n) (fun hc=>bj (Qb hc n) aA)
def PV:=b6 (fc 22).body 1 0
abbrev qZ:=LD×Int×Int×Nat×LD×LD
def jo (b:D)(f:List Ob)(Y:qZ->R)(e:LD)(c:Int)(d:Int):R:=dk (.p .nilif) b<|bh f fun a=>Y (e,c,ae .i64 (d+1),a.bu,a.ns,a.ou)
def nq (n:Nat)(t:LD×Int×Int×Bool×Nat×LD×LD->R)(Y:qZ->R):qZ->R:=fun(c,b,a,h,f,g)=>iL (aO a b) (cL (cp c a) fun F=>dm F fun d=>cc 56 [.box 0 0,pS d] (cG.mk h f g).hp fun s u=>aI s fun B=>bP B fun i C=>dP i fun E=>aP .i64 E fun G=>bP C fun j D=>dk (.p .nilif) j<|ag D<|bh u fun e=>iL (bv d [123]) (iL (bv d [123]) (cc 57 [.box 0 0,.p (.int .u8 10)] e.hp fun l v=>jo l v Y c b a) (cc 57 [.box 0 0,.p (.int .u8 32)] e.hp fun m w=>jo m w Y c b a)) (iL (bv d [125]) (iL (bv d [125]) (cc 57 [.box 0 0,.p (.int .u8 10)] e.hp fun o x=>jo o x Y c b a) (cc 57 [.box 0 0,.p (.int .u8 32)] e.hp fun p y=>jo p y Y c b a)) (iL (bv d [59]) (cc 57 [.box 0 0,.p (.int .u8 10)] e.hp fun q z=>jo q z Y c b a) (cc 57 [.box 0 0,.p (.int .u8 32)] e.hp fun r A=>jo r A Y c b a)))) (t (c,b,a,aO a b,h,f,g))
def L_yputB_1 (cc n a q):=itL (nq cc n a) q
def AG {cc n a q h}:L_yputB_1 cc n a (q+1) h=nq cc n a (L_yputB_1 cc n a q) h:=rfl
def Qw:Rd eQ qZ:= .tl<| .o 0 0<| .l 6 1<| .i 7<| .i 8<| .h (.c (.Ob (.co 0<| .c (.Ar 1 1)<| .cl 8 .n)) (.c .Oy .n))
def Ul (J:JJ):=nq cc n (fun(a,b,c,d,e,f,g)=>J (.exit 0) (tO 0 0<|tL 6 1 a<|tI 7 b<|tI 8 c<|tB 9 d .nil) (cG.mk e f g).hp)
def CG:df:=gH 27 Qw (Ul cc n) cw
def Qc {cc call}(hc:bA cc call)(n):bk (CG cc n) call n 1 (27,[0,6,7,8],PV,true):=cu oL hc aA
def Rl (c:cG)(l:LD):R:=L_yputB_1 cc n (fun(h,f,g,e,d,a,b)=>some (.tup [],(cG.mk d a b).hp)) n (l,↑l.length,0,c.bu,c.ns,c.ou)
def Ŵ (n:Nat)(c:cG)(l:LD):=iC (fun cc=>Rl cc n c l) 22 [.box 0 0,pL 1 l] c.hp 1 n oL (fun cc=>CG cc n) (fun hc=>bj (Qc hc n) aA)
def jL (a:D)(d:List Ob)(cc:ab)(h:cG):R:=dP a fun i=>dm i fun f=>ag d<|cc 22 [.box 0 0,pL 1 [Da.str f]] h.hp fun b c=>aI b fun e=>ag e<|bh c fun g=>some (.tup [],g.hp)
def xA (n:Nat)(c:cG)(i:Int):R:=iL (aO i 0) (cc 22 [.box 0 0,pL 1 [Da.str [45]]] c.hp fun a f=>aI a fun h=>ag h<|bh f fun j=>cc 90 [pI (ae .i64 (0 - i))] [] fun d g=>jL d g cc j) (cc 90 [pI i] [] fun b e=>jL b e cc c)
def JX (n:Nat)(c:cG)(i:Int):=dA (fun cc=>xA cc n c i) 58 [.box 0 0,pI i] c.hp 1 n bm
def LW:=b6 (fc 25).body 1 0
abbrev sm:=Int×Int×Nat×LD×aB×LD
def jt (n:Nat)(o:Int×Int×Bool×Nat×LD×aB×LD->R)(Y:sm->R):sm->R:=fun(d,a,g,f,i,e)=>iL (aO a d) (iL (aO 0 a) (cc 22 [.box 0 0,pL 1 [Da.str [44]]] (cG.mk g f e).hp fun j p=>aI j fun s=>ag s<|bh p fun h=>cc 60 [pI a,.box 0 0,.box 3 0] [.box [.box 1 0],.box [.box 1 0,.arr 2 0 h.bu 1,pL 8 h.ns],(.byt h.ou),i.b] fun l q=>aI l fun t=>ag t<|KT q fun b=>Y (d,ae .i64 (a+1),b.bu,b.ns,aB.mk b.vk b.vn b.vs b.vI b.vL,b.ou)) (cc 60 [pI a,.box 0 0,.box 3 0] [.box [.box 1 0],.box [.box 1 0,.arr 2 0 g 1,pL 8 f],(.byt e),i.b] fun m r=>aI m fun u=>ag u<|KT r fun c=>Y (d,ae .i64 (a+1),c.bu,c.ns,aB.mk c.vk c.vn c.vs c.vI c.vL,c.ou))) (o (d,a,aO a d,g,f,i,e))
def Nd:Rd eQ sm:= .tl<| .o 0 0<| .v 2 (.F 60 (.co 1<| .co 2 .n))<| .i 10<| .i 11<| .h (.c (.Ob (.co 0<| .c (.Ar 3 1)<| .cl 8 .n)) (.u (.Ob (.co 0 .n))<| .c (.Ob (.ci<| .ci<| .cs<| .cl 1<| .cl 1 .n)) (.c .Oy .n)))
def Ou (J:JJ):=jt cc n (fun(a,b,c,d,e,f,g)=>J (.exit 0) (tO 0 0<| .cons 2 (.fn 60 [(.box 1 0),(.box 2 0)])<|tI 10 a<|tI 11 b<|tB 12 c .nil) [.box [.box 0 0,.arr 3 0 d 1,pL 8 e],.box [.box 0 0],f.b,(.byt g)])
def yv:df:=gH 411 Nd (Ou cc n) cw
def MD {cc call}(hc:bA cc call)(n):bk (yv cc n) call n 3 (411,[0,2,10,11],LW,true):=cu bm hc aA
def Jk (c:IH)(w:Int):R:=cc 22 [.box 0 0,pL 1 [Da.str [40]]] (cG.mk c.bu c.ns c.ou).hp fun d i=>aI d fun l=>ag l<|bh i fun b=>itL (jt cc n (fun(q,r,p,h,f,o,g)=>cc 22 [.box 0 0,pL 1 [Da.str [41]]] (cG.mk h f g).hp fun e j=>aI e fun m=>ag m<|bh j fun a=>some (.tup [],[.box [.box 0 0,.arr 3 0 a.bu 1,pL 8 a.ns],.box [.box 0 0],o.b,(.byt a.ou)]))) n (w,0,b.bu,b.ns,aB.mk c.vk c.vn c.vs c.vI c.vL,b.ou)
def Yj (n:Nat)(c:IH)(w:Int):=iC (fun cc=>Jk cc n c w) 25 [.box 0 0,pI w,.fn 60 [.box 1 0,.box 2 0]] c.hp 3 n bm (fun cc=>yv cc n) (fun hc=>bj (MD hc n) aA)
def LZ:=b6 (fc 25).body 1 0
abbrev ss:=Int×Int×Nat×LD×aB×LD
def jw (n:Nat)(o:Int×Int×Bool×Nat×LD×aB×LD->R)(Y:ss->R):ss->R:=fun(d,a,g,f,i,e)=>iL (aO a d) (iL (aO 0 a) (cc 22 [.box 0 0,pL 1 [Da.str [44]]] (cG.mk g f e).hp fun j p=>aI j fun s=>ag s<|bh p fun h=>cc 61 [pI a,.box 0 0,.box 3 0] [.box [.box 1 0],.box [.box 1 0,.arr 2 0 h.bu 1,pL 8 h.ns],(.byt h.ou),i.b] fun l q=>aI l fun t=>ag t<|KT q fun b=>Y (d,ae .i64 (a+1),b.bu,b.ns,aB.mk b.vk b.vn b.vs b.vI b.vL,b.ou)) (cc 61 [pI a,.box 0 0,.box 3 0] [.box [.box 1 0],.box [.box 1 0,.arr 2 0 g 1,pL 8 f],(.byt e),i.b] fun m r=>aI m fun u=>ag u<|KT r fun c=>Y (d,ae .i64 (a+1),c.bu,c.ns,aB.mk c.vk c.vn c.vs c.vI c.vL,c.ou))) (o (d,a,aO a d,g,f,i,e))
def Nh:Rd eQ ss:= .tl<| .o 0 0<| .v 2 (.F 61 (.co 1<| .co 2 .n))<| .i 10<| .i 11<| .h (.c (.Ob (.co 0<| .c (.Ar 3 1)<| .cl 8 .n)) (.u (.Ob (.co 0 .n))<| .c (.Ob (.ci<| .ci<| .cs<| .cl 1<| .cl 1 .n)) (.c .Oy .n)))
def Ox (J:JJ):=jw cc n (fun(a,b,c,d,e,f,g)=>J (.exit 0) (tO 0 0<| .cons 2 (.fn 61 [(.box 1 0),(.box 2 0)])<|tI 10 a<|tI 11 b<|tB 12 c .nil) [.box [.box 0 0,.arr 3 0 d 1,pL 8 e],.box [.box 0 0],f.b,(.byt g)])
def yy:df:=gH 411 Nh (Ox cc n) cw
def MG {cc call}(hc:bA cc call)(n):bk (yy cc n) call n 3 (411,[0,2,10,11],LZ,true):=cu bm hc aA
def Jn (c:IH)(w:Int):R:=cc 22 [.box 0 0,pL 1 [Da.str [40]]] (cG.mk c.bu c.ns c.ou).hp fun d i=>aI d fun l=>ag l<|bh i fun b=>itL (jw cc n (fun(q,r,p,h,f,o,g)=>cc 22 [.box 0 0,pL 1 [Da.str [41]]] (cG.mk h f g).hp fun e j=>aI e fun m=>ag m<|bh j fun a=>some (.tup [],[.box [.box 0 0,.arr 3 0 a.bu 1,pL 8 a.ns],.box [.box 0 0],o.b,(.byt a.ou)]))) n (w,0,b.bu,b.ns,aB.mk c.vk c.vn c.vs c.vI c.vL,b.ou)
def Ym (n:Nat)(c:IH)(w:Int):=iC (fun cc=>Jn cc n c w) 25 [.box 0 0,pI w,.fn 61 [.box 1 0,.box 2 0]] c.hp 3 n bm (fun cc=>yy cc n) (fun hc=>bj (MG hc n) aA)
def LX:=b6 (fc 25).body 1 0
abbrev sq:=Int×Int×Nat×LD×LD×LD
def ju (n:Nat)(o:Int×Int×Bool×Nat×LD×LD×LD->R)(Y:sq->R):sq->R:=fun(b,a,h,f,g,e)=>iL (aO a b) (iL (aO 0 a) (cc 22 [.box 0 0,pL 1 [Da.str [44]]] (cG.mk h f e).hp fun j p=>aI j fun s=>ag s<|bh p fun i=>cc 92 [pI a,.box 0 0,.box 3 0] (Ŧ.mk i.bu i.ns i.ou g).hp fun l q=>aI l fun t=>ag t<|ZH q fun c=>Y (b,ae .i64 (a+1),c.bu,c.ns,c.li,c.ou)) (cc 92 [pI a,.box 0 0,.box 3 0] (Ŧ.mk h f e g).hp fun m r=>aI m fun u=>ag u<|ZH r fun d=>Y (b,ae .i64 (a+1),d.bu,d.ns,d.li,d.ou))) (o (b,a,aO a b,h,f,g,e))
def Nf:Rd eQ sq:= .tl<| .o 0 0<| .v 2 (.F 92 (.co 1<| .co 2 .n))<| .i 10<| .i 11<| .h (.c (.Ob (.co 0<| .c (.Ar 3 1)<| .cl 8 .n)) (.u (.Ob (.co 0 .n))<| .c (.Ob (.cl 1 .n))<| .c .Oy .n))
def Ov (J:JJ):=ju cc n (fun(a,b,c,d,e,f,g)=>J (.exit 0) (tO 0 0<| .cons 2 (.fn 92 [(.box 1 0),(.box 2 0)])<|tI 10 a<|tI 11 b<|tB 12 c .nil) (NP.mk d e f g).hp)
def yw:df:=gH 411 Nf (Ov cc n) cw
def ME {cc call}(hc:bA cc call)(n):bk (yw cc n) call n 3 (411,[0,2,10,11],LX,true):=cu bm hc aA
def Jl (c:NP)(w:Int):R:=cc 22 [.box 0 0,pL 1 [Da.str [40]]] (cG.mk c.bu c.ns c.ou).hp fun d j=>aI d fun m=>ag m<|bh j fun b=>itL (ju cc n (fun(q,r,p,i,f,g,h)=>cc 22 [.box 0 0,pL 1 [Da.str [41]]] (cG.mk i f h).hp fun e l=>aI e fun o=>ag o<|bh l fun a=>some (.tup [],(NP.mk a.bu a.ns g a.ou).hp))) n (w,0,b.bu,b.ns,c.li,b.ou)
def Yk (n:Nat)(c:NP)(w:Int):=iC (fun cc=>Jl cc n c w) 25 [.box 0 0,pI w,.fn 92 [.box 1 0,.box 2 0]] c.hp 3 n bm (fun cc=>yw cc n) (fun hc=>bj (ME hc n) aA)
def LY:=b6 (fc 25).body 1 0
abbrev sr:=Int×Int×Nat×LD×bf×LD
def jv (n:Nat)(o:Int×Int×Bool×Nat×LD×bf×LD->R)(Y:sr->R):sr->R:=fun(d,a,g,f,i,e)=>iL (aO a d) (iL (aO 0 a) (cc 22 [.box 0 0,pL 1 [Da.str [44]]] (cG.mk g f e).hp fun j p=>aI j fun s=>ag s<|bh p fun h=>cc 26 [pI a,.box 0 0,.box 3 0] [.box [.box 1 0],.box [.box 1 0,.arr 2 0 h.bu 1,pL 8 h.ns],(.byt h.ou),i.b] fun l q=>aI l fun t=>ag t<|ZJ q fun b=>Y (d,ae .i64 (a+1),b.bu,b.ns,bf.mk b.mn b.mp b.mr b.mo,b.ou)) (cc 26 [pI a,.box 0 0,.box 3 0] [.box [.box 1 0],.box [.box 1 0,.arr 2 0 g 1,pL 8 f],(.byt e),i.b] fun m r=>aI m fun u=>ag u<|ZJ r fun c=>Y (d,ae .i64 (a+1),c.bu,c.ns,bf.mk c.mn c.mp c.mr c.mo,c.ou))) (o (d,a,aO a d,g,f,i,e))
def Ng:Rd eQ sr:= .tl<| .o 0 0<| .v 2 (.F 26 (.co 1<| .co 2 .n))<| .i 10<| .i 11<| .h (.c (.Ob (.co 0<| .c (.Ar 3 1)<| .cl 8 .n)) (.u (.Ob (.co 0 .n))<| .c (.Ob (.cs<| .cl 2<| .ci<| .cl 8 .n)) (.c .Oy .n)))
def Ow (J:JJ):=jv cc n (fun(a,b,c,d,e,f,g)=>J (.exit 0) (tO 0 0<| .cons 2 (.fn 26 [(.box 1 0),(.box 2 0)])<|tI 10 a<|tI 11 b<|tB 12 c .nil) [.box [.box 0 0,.arr 3 0 d 1,pL 8 e],.box [.box 0 0],f.b,(.byt g)])
def yx:df:=gH 411 Ng (Ow cc n) cw
def MF {cc call}(hc:bA cc call)(n):bk (yx cc n) call n 3 (411,[0,2,10,11],LY,true):=cu bm hc aA
def Jm (c:Ur)(w:Int):R:=cc 22 [.box 0 0,pL 1 [Da.str [40]]] (cG.mk c.bu c.ns c.ou).hp fun d i=>aI d fun l=>ag l<|bh i fun b=>itL (jv cc n (fun(q,r,p,h,f,o,g)=>cc 22 [.box 0 0,pL 1 [Da.str [41]]] (cG.mk h f g).hp fun e j=>aI e fun m=>ag m<|bh j fun a=>some (.tup [],[.box [.box 0 0,.arr 3 0 a.bu 1,pL 8 a.ns],.box [.box 0 0],o.b,(.byt a.ou)]))) n (w,0,b.bu,b.ns,bf.mk c.mn c.mp c.mr c.mo,b.ou)
def Yl (n:Nat)(c:Ur)(w:Int):=iC (fun cc=>Jm cc n c w) 25 [.box 0 0,pI w,.fn 26 [.box 1 0,.box 2 0]] c.hp 3 n bm (fun cc=>yx cc n) (fun hc=>bj (MF hc n) aA)
def L2:=b6 (fc 59).body 1 0
abbrev oq:=LN×Nat×Int×Int×LD
def ov (e:Nat)(a:LD)(b:Nat)(Y:oq->R)(f:LN)(c:Int)(d:Int):R:=iL (Nat.beq e (List.length a)) (iL (cO (List.length a+List.length (List.take 2 (List.drop 0 [Da.int .u8 92,Da.int .u8 (Int.ofNat b)]))) 1) (Y (f,List.length (a++List.take 2 (List.drop 0 [Da.int .u8 92,Da.int .u8 (Int.ofNat b)])),c,ae .i64 (d+1),a++[Da.int .u8 92,Da.int .u8 (Int.ofNat b)])) (none)) (none)
def jx (n:Nat)(l:(LN)×Nat×Int×Int×Bool×LD->R)(Y:oq->R):oq->R:=fun(e,f,d,c,b)=>iL (aO c d) (cL (bif aS 0 c then e[Int.toNat c]? else none) fun a=>cc 91 [.p (.int .u8 (Int.ofNat a))] [] fun j m=>dP j fun o=>af o fun i=>ag m<|iL i (iL (Nat.beq f (List.length b)) (iL (cO (List.length b+List.length (List.take 1 (List.drop 0 [Da.int .u8 (Int.ofNat a)]))) 1) (Y (e,List.length (b++List.take 1 (List.drop 0 [Da.int .u8 (Int.ofNat a)])),d,ae .i64 (c+1),b++[Da.int .u8 (Int.ofNat a)])) (none)) (none)) (iL (eqI (Int.ofNat a) 34) (ov f b a Y e d c) (iL (eqI (Int.ofNat a) 92) (ov f b a Y e d c) (cL (bif aS 0 (Int.fdiv (Int.ofNat a) (2 ^ min (Int.toNat 4) (IntKind.bits .u8)))then[48,49,50,51,52,53,54,55,56,57,97,98,99,100,101,102][Int.toNat (Int.fdiv (Int.ofNat a) (2 ^ min (Int.toNat 4) (IntKind.bits .u8)))]? else none) fun g=>cL (bif aS 0 (ae .u8 ↑(BitVec.toNat (BitVec.ofInt (IntKind.bits .u8) (Int.ofNat a) &&& BitVec.ofInt (IntKind.bits .u8) 15)))then[48,49,50,51,52,53,54,55,56,57,97,98,99,100,101,102][Int.toNat (ae .u8 ↑(BitVec.toNat (BitVec.ofInt (IntKind.bits .u8) (Int.ofNat a) &&& BitVec.ofInt (IntKind.bits .u8) 15)))]? else none) fun h=>iL (Nat.beq f (List.length b)) (iL (cO (List.length b+List.length (List.take 4 (List.drop 0 [Da.int .u8 92,Da.int .u8 120,Da.int .u8 (Int.ofNat g),Da.int .u8 (Int.ofNat h)]))) 1) (Y (e,List.length (b++List.take 4 (List.drop 0 [Da.int .u8 92,Da.int .u8 120,Da.int .u8 (Int.ofNat g),Da.int .u8 (Int.ofNat h)])),d,ae .i64 (c+1),b++[Da.int .u8 92,Da.int .u8 120,Da.int .u8 (Int.ofNat g),Da.int .u8 (Int.ofNat h)])) (none)) (none))))) (l (e,f,d,c,aO c d,b))
def Nk:Rd eQ oq:= .tl<| .s 0<| .t 3 (.Ar 0 1)<| .i 8<| .i 9<| .h (.c .Oa .n)
def OB (J:JJ):=jx cc n (fun(a,b,c,d,e,f)=>J (.exit 0) (tS 0 a<| .cons 3 (.arr 0 0 b 1)<|tI 8 c<|tI 9 d<|tB 10 e .nil) [.arr f])
def yB:df:=gH 6767 Nk (OB cc n) cw
def MJ {cc call}(hc:bA cc call)(n):bk (yB cc n) call n 0 (6767,[0,3,8,9],L2,true):=cu bm hc aA
def XO (b:LN):R:=itL (jx cc n (fun(h,c,f,g,e,a)=>iL (Nat.beq c (List.length a)) (iL (cO (List.length a+List.length (List.take 1 (List.drop 0 [Da.int .u8 34]))) 1) (cL (cX (List.take (List.length (a++List.take 1 (List.drop 0 [Da.int .u8 34]))) (List.drop 0 (a++[Da.int .u8 34])))) fun d=>some (pS d,[])) (none)) (none))) n (b,1,↑b.length,0,[Da.int .u8 34])
def Yu (n:Nat)(a:LN):=iC (fun cc=>XO cc n a) 59 [pS a] [] 0 n bm (fun cc=>yB cc n) (fun hc=>bj (MJ hc n) aA)
def z1 (n:Nat)(c:PwJ)(i:Int):R:=cL (cp c.vI i) fun g=>aP .i64 g fun d=>cc 58 [.box 0 0,pI d] (cG.mk c.bu c.ns c.ou).hp fun b e=>aI b fun f=>ag f<|bh e fun a=>some (.tup [],(Ru.mk a.bu a.ns c.vk c.vn c.vs c.vI c.vL a.ou).hp)
def OQ (n:Nat)(c:PwJ)(i:Int):=dA (fun cc=>z1 cc n c i) 60 [pI i,.box 0 0,.box 3 0] c.hp 4 n bm
def z6 (n:Nat)(c:PwJ)(i:Int):R:=cL (cp c.vL i) fun l=>dm l fun h=>cc 59 [pS h] [] fun b e=>dP b fun m=>dm m fun j=>ag e<|cc 22 [.box 0 0,pL 1 [Da.str j]] (cG.mk c.bu c.ns c.ou).hp fun d f=>aI d fun g=>ag g<|bh f fun a=>some (.tup [],(Ru.mk a.bu a.ns c.vk c.vn c.vs c.vI c.vL a.ou).hp)
def OS (n:Nat)(c:PwJ)(i:Int):=dA (fun cc=>z6 cc n c i) 61 [pI i,.box 0 0,.box 3 0] c.hp 4 n oL
def tT (n:Nat)(c:cG)(v:aB):R:=iL (eqI v.Kind 1) (cc 58 [.box 0 0,pI v.N] c.hp fun f r=>aI f fun C=>ag C<|bh r fun J=>some (.tup [],J.hp)) (iL (eqI v.Kind 2) (iL (aS 0 v.N) (iL (aO v.N ↑2) (cL ([Da.str [102,97,108,115,101],Da.str [116,114,117,101]][Int.toNat v.N]?) fun L=>dm L fun G=>cc 22 [.box 0 0,pL 1 [Da.str G]] c.hp fun o x=>aI o fun E=>ag E<|bh x fun H=>some (.tup [],H.hp)) (none)) (none)) (iL (eqI v.Kind 3) (cc 59 [pS v.S] [] fun g p=>dP g fun K=>dm K fun F=>ag p<|cc 22 [.box 0 0,pL 1 [Da.str F]] c.hp fun h q=>aI h fun y=>ag y<|bh q fun I=>some (.tup [],I.hp)) (iL (eqI v.Kind 4) (cc 22 [.box 0 0,pL 1 [Da.str [105,110,116,115]]] c.hp fun i s=>aI i fun z=>ag z<|bh s fun a=>cc 25 [.box 0 0,pI (↑v.I.length),.fn 60 [.box 1 0,.box 2 0]] [.box [.box 0 0,.arr 3 0 a.bu 1,pL 8 a.ns],.box [.box 0 0],v.b,(.byt a.ou)] fun j t=>aI j fun A=>ag A<|KS t fun b=>some (.tup [],(cG.mk b.bu b.ns b.ou).hp)) (iL (eqI v.Kind 5) (cc 22 [.box 0 0,pL 1 [Da.str [115,116,114,105,110,103,115]]] c.hp fun l u=>aI l fun B=>ag B<|bh u fun d=>cc 25 [.box 0 0,pI (↑v.L.length),.fn 61 [.box 1 0,.box 2 0]] [.box [.box 0 0,.arr 3 0 d.bu 1,pL 8 d.ns],.box [.box 0 0],v.b,(.byt d.ou)] fun m w=>aI m fun D=>ag D<|KS w fun e=>some (.tup [],(cG.mk e.bu e.ns e.ou).hp)) (some (.tup [],c.hp))))))
def F1 (n:Nat)(c:cG)(v:aB):=dA (fun cc=>tT cc n c v) 24 [.box 0 0,.p v.e] c.hp 1 n bm
def LE:=b6 (fc 50).body 1 0
def LF:=b6 (fc 50).body 1 1
def LG:=b6 (fc 50).body 1 2
def LL:=b6 (fc 50).body 1 3
def LM:=b6 (fc 50).body 1 4
def LH:=b6 (fc 50).body 1 5
def LK:=b6 (fc 50).body 1 6
abbrev Ak:=aB
def ow (cc:ab)(n:Nat)(b:Bool×aB->R):Ak->R:=fun a=>iL (aO a.Kind 0) (b (true,a)) (iL (aO 5 a.Kind) (b (true,a)) (b (false,a)))
def MZ:Rd eQ Ak:= .rm (.o 1 0<| .h (.c (.Ob (.ci<| .ci<| .cs<| .cl 1<| .cl 1 .n)) .n)) (fun((b,(c,(d,(e,(f,()))))),())=>(aB.mk b c d e f)) (fun a=>((a.Kind,(a.N,(a.S,(a.I,(a.L,()))))),()))
def N8 (J:JJ):=ow cc n (fun(a,b)=>J .norm (tO 1 0<|tB 12 a .nil) [b.b])
def yf:df:=VW 101 MZ (N8 cc n) cw
def Mo {cc call}(hc:bA cc call)(n):bk (yf cc n) call n 0 (101,[1],LE,false):=Ho lN hc aA
abbrev Al:=aB
def ox (cc:ab)(n:Nat)(b:Bool×aB->R):Al->R:=fun a=>iL (!eqI a.N 0) (iL (!eqI a.Kind 1) (iL (!eqI a.Kind 2) (b (true,a)) (iL (!eqI a.N 1) (b (true,a)) (b (false,a)))) (b (false,a))) (b (false,a))
def M0:Rd eQ Al:= .rm (.o 1 0<| .h (.c (.Ob (.ci<| .ci<| .cs<| .cl 1<| .cl 1 .n)) .n)) (fun((b,(c,(d,(e,(f,()))))),())=>(aB.mk b c d e f)) (fun a=>((a.Kind,(a.N,(a.S,(a.I,(a.L,()))))),()))
def N9 (J:JJ):=ox cc n (fun(a,b)=>J .norm (tO 1 0<|tB 13 a .nil) [b.b])
def yg:df:=VW 1693 M0 (N9 cc n) (yf cc n)
def Mp {cc call}(hc:bA cc call)(n):bk (yg cc n) call n 0 (1693,[1],LF,false):=Ho lN hc aA
abbrev Am:=aB
def oy (cc:ab)(n:Nat)(b:Bool×aB->R):Am->R:=fun a=>iL (!bv a.S []) (iL (!eqI a.Kind 3) (b (true,a)) (b (false,a))) (b (false,a))
def M1:Rd eQ Am:= .rm (.o 1 0<| .h (.c (.Ob (.ci<| .ci<| .cs<| .cl 1<| .cl 1 .n)) .n)) (fun((b,(c,(d,(e,(f,()))))),())=>(aB.mk b c d e f)) (fun a=>((a.Kind,(a.N,(a.S,(a.I,(a.L,()))))),()))
def Oc (J:JJ):=oy cc n (fun(a,b)=>J .norm (tO 1 0<|tB 32 a .nil) [b.b])
def yh:df:=VW 108453 M1 (Oc cc n) (yg cc n)
def Mq {cc call}(hc:bA cc call)(n):bk (yh cc n) call n 0 (108453,[1],LG,false):=Ho lN hc aA
abbrev An:=aB
def jp (cc:ab)(n:Nat)(b:Bool×aB->R):An->R:=fun a=>iL (aO 64 ↑a.S.length) (b (true,a)) (iL (aO 16 ↑a.I.length) (b (true,a)) (iL (aO 16 ↑a.L.length) (b (true,a)) (b (false,a))))
def M2:Rd eQ An:= .rm (.o 1 0<| .h (.c (.Ob (.ci<| .ci<| .cs<| .cl 1<| .cl 1 .n)) .n)) (fun((b,(c,(d,(e,(f,()))))),())=>(aB.mk b c d e f)) (fun a=>((a.Kind,(a.N,(a.S,(a.I,(a.L,()))))),()))
def Oe (J:JJ):=jp cc n (fun(a,b)=>J .norm (tO 1 0<|tB 74 a .nil) [b.b])
def yi:df:=VW 1701 M2 (Oe cc n) (yh cc n)
def Mr {cc call}(hc:bA cc call)(n):bk (yi cc n) call n 0 (1701,[1],LH,false):=Ho lN hc aA
abbrev oi:=LD×Int×Int
def dw (cc:ab)(n:Nat)(d:R)(e:oi->R)(Y:oi->R):oi->R:=fun(c,b,a)=>iL (aO a b) (cL (cp c a) fun g=>dm g fun f=>iL (aO 64 ↑f.length) (d) (Y (c,b,ae .i64 (a+1)))) (e (c,b,a))
def M3:Rd eQ oi:= .tl<| .l 76 1<| .i 77<| .i 78<| .h .n
def Og (J:JJ):=dw cc n (J .ret (tB 2 false .nil) []) (fun(a,b,c)=>J (.exit 1) (tL 76 1 a<|tI 77 b<|tI 78 c<|tB 79 false .nil) [])
def yj:df:=gH 27291 M3 (Og cc n) (yi cc n)
def Ms {cc call}(hc:bA cc call)(n):bk (yj cc n) call n 0 (27291,[76,77,78],LK,true):=cu lN hc aA
abbrev Ap:=aB
def oz (cc:ab)(n:Nat)(b:Bool×aB->R):Ap->R:=fun a=>iL (aO 0 ↑a.I.length) (iL (!eqI a.Kind 4) (b (true,a)) (b (false,a))) (b (false,a))
def M4:Rd eQ Ap:= .rm (.o 1 0<| .h (.c (.Ob (.ci<| .ci<| .cs<| .cl 1<| .cl 1 .n)) .n)) (fun((b,(c,(d,(e,(f,()))))),())=>(aB.mk b c d e f)) (fun a=>((a.Kind,(a.N,(a.S,(a.I,(a.L,()))))),()))
def Oh (J:JJ):=oz cc n (fun(a,b)=>J .norm (tO 1 0<|tB 32 a .nil) [b.b])
def yk:df:=VW 1735273 M4 (Oh cc n) (yj cc n)
def Mt {cc call}(hc:bA cc call)(n):bk (yk cc n) call n 0 (1735273,[1],LL,false):=Ho lN hc aA
abbrev Aq:=aB
def oA (cc:ab)(n:Nat)(b:Bool×aB->R):Aq->R:=fun a=>iL (aO 0 ↑a.L.length) (iL (!eqI a.Kind 5) (b (true,a)) (b (false,a))) (b (false,a))
def M5:Rd eQ Aq:= .rm (.o 1 0<| .h (.c (.Ob (.ci<| .ci<| .cs<| .cl 1<| .cl 1 .n)) .n)) (fun((b,(c,(d,(e,(f,()))))),())=>(aB.mk b c d e f)) (fun a=>((a.Kind,(a.N,(a.S,(a.I,(a.L,()))))),()))
def Oi (J:JJ):=oA cc n (fun(a,b)=>J .norm (tO 1 0<|tB 32 a .nil) [b.b])
def yl:df:=VW 6941098 M5 (Oi cc n) (yk cc n)
def Mu {cc call}(hc:bA cc call)(n):bk (yl cc n) call n 0 (6941098,[1],LM,false):=Ho lN hc aA
def zQ (p:aB):R:=ow cc n (fun(i,q)=>iL i rF (ox cc n (fun(o,s)=>iL o rF (oy cc n (fun(b,g)=>iL b (iL b rF (jp cc n (fun(h,c)=>iL h rF (itL (dw cc n rF (fun(z,t,u)=>rT)) n (c.L,↑c.L.length,0))) g)) (oz cc n (fun(a,d)=>iL a (iL a rF (jp cc n (fun(j,e)=>iL j rF (itL (dw cc n rF (fun(A,v,w)=>rT)) n (e.L,↑e.L.length,0))) d)) (oA cc n (fun(l,r)=>iL l rF (jp cc n (fun(m,f)=>iL m rF (itL (dw cc n rF (fun(B,x,y)=>rT)) n (f.L,↑f.L.length,0))) r)) d)) g)) s)) q)) p
def X3 (n:Nat)(a:aB):=iC (fun cc=>zQ cc n a) 50 [.p a.e] [] 0 n lN (fun cc=>yl cc n) (fun hc=>bj (pR (pR (P3 (pR (pR (pR (Mo hc n))))))) (bj (pR (pR (P3 (pR (pR (Mp hc n)))))) (bj (pR (pR (P3 (pR (Mq hc n))))) (bj (pR (Mt hc n)) (bj (Mu hc n) (bj (pR (pR (P3 (Mr hc n)))) (bj (pR (pR (Ms hc n))) aA)))))))
def I0 (n:Nat)(d:LD)(e:Int):R:=cc 80 [pL 1 d,pI e] [] fun a c=>dP a fun f=>aP .i64 f fun b=>ag c<|iL (aS 0 b) rT rF
def XY (n:Nat)(a:LD)(b:Int):=dA (fun cc=>I0 cc n a b) 51 [pL 1 a,pI b] [] 0 n be
def PP:=b6 (fc 80).body 1 0
abbrev qX:=LD×Int×Int×Int
def nk (cc:ab)(n:Nat)(f:Int->R)(g:qX->R)(Y:qX->R):qX->R:=fun(d,b,c,a)=>iL (aO a c) (cL (cp d a) fun h=>aP .i64 h fun e=>iL (eqI b e) (f a) (Y (d,b,c,ae .i64 (a+1)))) (g (d,b,c,a))
def Qt:Rd eQ qX:= .tl<| .l 0 1<| .i 1<| .i 7<| .i 8<| .h .n
def Ui (J:JJ):=nk cc n (fun a=>J .ret (tI 4 a .nil) []) (fun(a,b,c,d)=>J (.exit 0) (tL 0 1 a<|tI 1 b<|tI 7 c<|tI 8 d<|tB 9 false .nil) [])
def CD:df:=gH 411 Qt (Ui cc n) cw
def P9 {cc call}(hc:bA cc call)(n):bk (CD cc n) call n 0 (411,[0,1,7,8],PP,true):=cu be hc aA
def Q9 (a:LD)(c:Int):R:=itL (nk cc n (fun b=>some (pI b,[])) (fun(g,f,d,e)=>some (pI (-1),[]))) n (a,c,↑a.length,0)
def ũ (n:Nat)(a:LD)(b:Int):=iC (fun cc=>Q9 cc n a b) 80 [pL 1 a,pI b] [] 0 n be (fun cc=>CD cc n) (fun hc=>bj (P9 hc n) aA)
def I1 (n:Nat)(d:LD)(e:LN):R:=cc 108 [pL 1 d,pS e] [] fun a c=>dP a fun f=>aP .i64 f fun b=>ag c<|iL (aS 0 b) rT rF
def XZ (n:Nat)(a:LD)(b:LN):=dA (fun cc=>I1 cc n a b) 88 [pL 1 a,pS b] [] 0 n lN
def PQ:=b6 (fc 108).body 1 0
abbrev wc:=LD×LN×Int×Int
def np (cc:ab)(n:Nat)(e:Int->R)(f:LD×(LN)×Int×Int->R)(Y:wc->R):wc->R:=fun(c,d,b,a)=>iL (aO a b) (cL (cp c a) fun h=>dm h fun g=>iL (bv d g) (e a) (Y (c,d,b,ae .i64 (a+1)))) (f (c,d,b,a))
def Qu:Rd eQ wc:= .tl<| .l 0 1<| .s 1<| .i 7<| .i 8<| .h .n
def Uj (J:JJ):=np cc n (fun a=>J .ret (tI 4 a .nil) []) (fun(a,b,c,d)=>J (.exit 0) (tL 0 1 a<|tS 1 b<|tI 7 c<|tI 8 d<|tB 9 false .nil) [])
def CE:df:=gH 411 Qu (Uj cc n) cw
def Qa {cc call}(hc:bA cc call)(n):bk (CE cc n) call n 0 (411,[0,1,7,8],PQ,true):=cu lN hc aA
def Ra (a:LD)(c:LN):R:=itL (np cc n (fun b=>some (pI b,[])) (fun(f,g,d,e)=>some (pI (-1),[]))) n (a,c,↑a.length,0)
def Ū (n:Nat)(a:LD)(b:LN):=iC (fun cc=>Ra cc n a b) 108 [pL 1 a,pS b] [] 0 n lN (fun cc=>CE cc n) (fun hc=>bj (Qa hc n) aA)
def DV (cc:ab)(n:Nat)(a:Int):R:=iL (aS 1 a) (iL (aS a 5) rT rF) rF
def UA (n:Nat)(a:Int):=dA (fun cc=>DV cc n a) 49 [pI a] [] 0 n be
def yR:=b6 (fc 52).body 1 0
abbrev fI:=Nat×LD×Int×Int×LD
def fM (n:Nat)(g:LD×aK->R)(p:fI->R)(Y:fI->R):fI->R:=fun(a,f,e,d,c)=>iL (aO d e) (cL (cp f d) fun w=>bn w fun b=>iL (aO (ae .i64 (↑a - ↑b.Kids.length)) 0) (g (c,b)) (iL (aS 0 (ae .i64 (↑a - ↑b.Kids.length))) (iL (aS (ae .i64 (↑a - ↑b.Kids.length)) ↑a) (iL (Nat.beq (Int.toNat (ae .i64 (↑a - ↑b.Kids.length))) a) (iL (Nat.blt 0 (List.length c)) (cc 31 [pL 1 [],pL 1 b.Kids] [] fun o s=>dP o fun t=>af t fun h=>bF [] s<|iL h (iL (aS 0 (ae .i64 (↑a - ↑b.Kids.length))) (iL (aS (ae .i64 (↑a - ↑b.Kids.length)) ↑a) (iL (cO (List.length (List.take (Int.toNat (ae .i64 (↑a - ↑b.Kids.length)) - 0) c)+List.length [Da.int .i64 d]) 8) (Y (List.length (List.take (Int.toNat (ae .i64 (↑a - ↑b.Kids.length)) - 0) c++[Da.int .i64 d]),f,e,ae .i64 (d+1),List.take (Int.toNat (ae .i64 (↑a - ↑b.Kids.length)) - 0) c++[Da.int .i64 d])) (none)) (none)) (none)) (g (c,b))) (cc 31 [.arr 0 (0+Int.toNat (ae .i64 (↑a - ↑b.Kids.length))) (a - Int.toNat (ae .i64 (↑a - ↑b.Kids.length))) 1,pL 1 b.Kids] [.arr c] fun l q=>dP l fun u=>af u fun i=>bF [.arr c] q<|iL i (iL (aS 0 (ae .i64 (↑a - ↑b.Kids.length))) (iL (aS (ae .i64 (↑a - ↑b.Kids.length)) ↑a) (iL (cO (List.length (List.take (Int.toNat (ae .i64 (↑a - ↑b.Kids.length)) - 0) c)+List.length [Da.int .i64 d]) 8) (Y (List.length (List.take (Int.toNat (ae .i64 (↑a - ↑b.Kids.length)) - 0) c++[Da.int .i64 d]),f,e,ae .i64 (d+1),List.take (Int.toNat (ae .i64 (↑a - ↑b.Kids.length)) - 0) c++[Da.int .i64 d])) (none)) (none)) (none)) (g (c,b)))) (cc 31 [.arr 0 (0+Int.toNat (ae .i64 (↑a - ↑b.Kids.length))) (a - Int.toNat (ae .i64 (↑a - ↑b.Kids.length))) 1,pL 1 b.Kids] [.arr c] fun m r=>dP m fun v=>af v fun j=>bF [.arr c] r<|iL j (iL (aS 0 (ae .i64 (↑a - ↑b.Kids.length))) (iL (aS (ae .i64 (↑a - ↑b.Kids.length)) ↑a) (iL (cO (List.length (List.take (Int.toNat (ae .i64 (↑a - ↑b.Kids.length)) - 0) c)+List.length [Da.int .i64 d]) 8) (Y (List.length (List.take (Int.toNat (ae .i64 (↑a - ↑b.Kids.length)) - 0) c++[Da.int .i64 d]),f,e,ae .i64 (d+1),List.take (Int.toNat (ae .i64 (↑a - ↑b.Kids.length)) - 0) c++[Da.int .i64 d])) (none)) (none)) (none)) (g (c,b)))) (none)) (none))) (p (a,f,e,d,c))
def y4:Rd eQ fI:= .tl<| .t 3 (.Ar 0 1)<| .l 7 8<| .i 8<| .i 9<| .h (.c .Oa .n)
def AB (J:JJ):=fM cc n (fun(a,b)=>J .ret (tB 2 false .nil) [.arr a,b.b]) (fun(a,b,c,d,e)=>J (.exit 0) (.cons 3 (.arr 0 0 a 1)<|tL 7 8 b<|tI 8 c<|tI 9 d<|tB 10 false .nil) [.arr e])
def pF:df:=gH 6767 y4 (AB cc n) cw
def yW {cc call}(hc:bA cc call)(n):bk (pF cc n) call n 0 (6767,[3,7,8,9],yR,true):=cu R5 hc aA
def tH (a:LD):R:=itL (fM cc n (fun(e,h)=>rF) (fun(b,f,c,d,g)=>iL (eqI (↑b) 1) rT rF)) n (0,a,↑a.length,0,[])
def FT (n:Nat)(a:LD):=iC (fun cc=>tH cc n a) 52 [pL 8 a] [] 0 n R5 (fun cc=>pF cc n) (fun hc=>bj (yW hc n) aA)
def G1:=b6 (fc 31).body 1 0
abbrev my:=Nat×Nat×LD×Int×Int×LD
def jZ (cc:ab)(n:Nat)(i:LD->R)(j:my->R)(Y:my->R):my->R:=fun(e,f,d,c,a,b)=>iL (aO a c) (iL (aS 0 a) (iL (aO a ↑f) (cL (b[e+Int.toNat a]?) fun l=>aP .i64 l fun h=>cL (cp d a) fun m=>aP .i64 m fun g=>iL (!eqI h g) (i b) (Y (e,f,d,c,ae .i64 (a+1),b))) (none)) (none)) (j (e,f,d,c,a,b))
def HW:Rd eQ my:= .tl<| .t 0 (.Av 0 1)<| .l 1 1<| .i 12<| .i 13<| .h (.c .Oa .n)
def JA (J:JJ):=jZ cc n (fun a=>J .ret (tB 4 false .nil) [.arr a]) (fun(a,b,c,d,e,f)=>J (.exit 0) (.cons 0 (.arr 0 a b 1)<|tL 1 1 c<|tI 12 d<|tI 13 e<|tB 14 false .nil) [.arr f])
def vx:df:=gH 1691 HW (JA cc n) cw
def Hz {cc call}(hc:bA cc call)(n):bk (vx cc n) call n 1 (1691,[0,1,12,13],G1,true):=cu be hc aA
def DN (l:LD)(lo:Nat)(a:Nat)(y:LD):R:=iL (!eqI ↑a ↑y.length) (some (pB false,[.arr l])) (itL (jZ cc n (fun b=>some (pB false,[.arr b])) (fun(g,h,f,d,e,c)=>some (pB true,[.arr c]))) n (lo,a,y,↑a,0,l))
def Us (n:Nat)(l:LD)(lo:Nat)(a:Nat)(y:LD):=iC (fun cc=>DN cc n l lo a y) 31 [.arr 0 lo a 1,pL 1 y] [.arr l] 1 n be (fun cc=>vx cc n) (fun hc=>bj (Hz hc n) aA)
def Rb (n:Nat)(b:LD)(a:aK):R:=iL (eqI a.Op 1) (cc 81 [pI 0,pI 0,.box 0 0] [a.b] fun T o2=>dP T fun x3=>af x3 fun A=>bF [a.b] o2<|iL A rT rF) (iL (eqI a.Op 2) (cc 81 [pI 0,pI 0,.box 0 0] [a.b] fun d5 o6=>dP d5 fun x7=>af x7 fun L=>bF [a.b] o6<|iL L rT rF) (iL (eqI a.Op 3) (cc 81 [pI 0,pI 0,.box 0 0] [a.b] fun d9 e2=>dP d9 fun i8=>af i8 fun g=>bF [a.b] e2<|iL g rT rF) (iL (eqI a.Op 14) (cc 81 [pI 0,pI 0,.box 0 0] [a.b] fun a1 f0=>dP a1 fun l2=>af l2 fun q=>bF [a.b] f0<|iL q rT rF) (iL (eqI a.Op 4) (cc 81 [pI 1,pI 1,.box 0 0] [a.b] fun b0 f8=>dP b0 fun l9=>af l9 fun v=>bF [a.b] f8<|iL v (cc 82 [pI 0,.p (.fn 83 []),.box 0 0,.box 1 0] [a.b,.box [pL 8 b]] fun b1 g0=>dP b1 fun m0=>af m0 fun w=>bF [a.b,.box [pL 8 b]] g0<|iL w rT rF) rF) (iL (eqI a.Op 17) (cc 81 [pI 1,pI 1,.box 0 0] [a.b] fun b2 g1=>dP b2 fun m1=>af m1 fun x=>bF [a.b] g1<|iL x (cc 82 [pI 0,.p (.fn 83 []),.box 0 0,.box 1 0] [a.b,.box [pL 8 b]] fun b3 g2=>dP b3 fun m3=>af m3 fun y=>bF [a.b,.box [pL 8 b]] g2<|iL y rT rF) rF) (iL (eqI a.Op 5) (cc 81 [pI 2,pI 2,.box 0 0] [a.b] fun b5 g3=>dP b5 fun m4=>af m4 fun z=>bF [a.b] g3<|iL z (cc 82 [pI 0,.p (.fn 83 []),.box 0 0,.box 1 0] [a.b,.box [pL 8 b]] fun b6 g4=>dP b6 fun m5=>af m5 fun B=>bF [a.b,.box [pL 8 b]] g4<|iL B rT rF) rF) (iL (eqI a.Op 15) (cc 81 [pI 2,pI 2,.box 0 0] [a.b] fun b7 g5=>dP b7 fun m6=>af m6 fun C=>bF [a.b] g5<|iL C (cc 82 [pI 0,.p (.fn 83 []),.box 0 0,.box 1 0] [a.b,.box [pL 8 b]] fun b9 g6=>dP b9 fun m7=>af m7 fun D=>bF [a.b,.box [pL 8 b]] g6<|iL D rT rF) rF) (iL (eqI a.Op 16) (cc 81 [pI 3,pI 3,.box 0 0] [a.b] fun c0 g7=>dP c0 fun m8=>af m8 fun E=>bF [a.b] g7<|iL E (cc 82 [pI 0,.p (.fn 83 []),.box 0 0,.box 1 0] [a.b,.box [pL 8 b]] fun c2 g8=>dP c2 fun m9=>af m9 fun F=>bF [a.b,.box [pL 8 b]] g8<|iL F rT rF) rF) (iL (eqI a.Op 6) (cc 81 [pI 0,pI 16,.box 0 0] [a.b] fun c3 g9=>dP c3 fun n0=>af n0 fun G=>bF [a.b] g9<|iL G (cc 82 [pI 0,.p (.fn 83 []),.box 0 0,.box 1 0] [a.b,.box [pL 8 b]] fun c4 h1=>dP c4 fun n1=>af n1 fun H=>bF [a.b,.box [pL 8 b]] h1<|iL H rT rF) rF) (iL (eqI a.Op 7) (cc 81 [pI 1,pI 17,.box 0 0] [a.b] fun c5 h2=>dP c5 fun n2=>af n2 fun I=>bF [a.b] h2<|iL I (cc 82 [pI 0,.p (.fn 83 []),.box 0 0,.box 1 0] [a.b,.box [pL 8 b]] fun c6 h3=>dP c6 fun n4=>af n4 fun J=>bF [a.b,.box [pL 8 b]] h3<|iL J rT rF) rF) (iL (eqI a.Op 8) (cc 81 [pI 1,pI 1,.box 0 0] [a.b] fun c7 h4=>dP c7 fun n5=>af n5 fun K=>bF [a.b] h4<|iL K (cc 82 [pI 0,.p (.fn 84 []),.box 0 0,.box 1 0] [a.b,.box [pL 8 b]] fun c8 h5=>dP c8 fun n6=>af n6 fun M=>bF [a.b,.box [pL 8 b]] h5<|iL M rT rF) rF) (iL (eqI a.Op 9) (cc 81 [pI 1,pI 1,.box 0 0] [a.b] fun c9 h6=>dP c9 fun n7=>af n7 fun N=>bF [a.b] h6<|iL N (cc 82 [pI 0,.p (.fn 84 []),.box 0 0,.box 1 0] [a.b,.box [pL 8 b]] fun d0 h7=>dP d0 fun n8=>af n8 fun O=>bF [a.b,.box [pL 8 b]] h7<|iL O rT rF) rF) (iL (eqI a.Op 10) (cc 81 [pI 1,pI 1,.box 0 0] [a.b] fun d2 h8=>dP d2 fun n9=>af n9 fun P=>bF [a.b] h8<|iL P (cc 82 [pI 0,.p (.fn 85 []),.box 0 0,.box 1 0] [a.b,.box [pL 8 b]] fun d4 h9=>dP d4 fun o0=>af o0 fun S=>bF [a.b,.box [pL 8 b]] h9<|iL S rT rF) rF) (iL (eqI a.Op 11) (iL (eqI a.Op 12) (cc 81 [pI 2,pI 2,.box 0 0] [a.b] fun d6 i0=>dP d6 fun o1=>af o1 fun c=>bF [a.b] i0<|iL c (cL (cp a.Kids 0) fun i5=>aP .i64 i5 fun d7=>cL (cp b d7) fun i6=>bn i6 fun i1=>cc 83 [pI i1.Op] [] fun U e3=>dP U fun i7=>af i7 fun d=>ag e3<|iL d (cc 82 [pI 1,.p (.fn 86 []),.box 0 0,.box 1 0] [a.b,.box [pL 8 b]] fun V e4=>dP V fun i9=>af i9 fun e=>bF [a.b,.box [pL 8 b]] e4<|iL e rT rF) rF) rF) (cc 81 [pI 2,pI 3,.box 0 0] [a.b] fun W e5=>dP W fun j0=>af j0 fun f=>bF [a.b] e5<|iL f (cL (cp a.Kids 0) fun j1=>aP .i64 j1 fun d8=>cL (cp b d8) fun j2=>bn j2 fun i2=>cc 83 [pI i2.Op] [] fun X e6=>dP X fun j3=>af j3 fun h=>ag e6<|iL h (cc 82 [pI 1,.p (.fn 86 []),.box 0 0,.box 1 0] [a.b,.box [pL 8 b]] fun Z e7=>dP Z fun j4=>af j4 fun i=>bF [a.b,.box [pL 8 b]] e7<|iL i rT rF) rF) rF)) (iL (eqI a.Op 12) (iL (eqI a.Op 12) (cc 81 [pI 2,pI 2,.box 0 0] [a.b] fun a0 e8=>dP a0 fun j5=>af j5 fun j=>bF [a.b] e8<|iL j (cL (cp a.Kids 0) fun j6=>aP .i64 j6 fun e0=>cL (cp b e0) fun j7=>bn j7 fun i3=>cc 83 [pI i3.Op] [] fun a2 e9=>dP a2 fun j8=>af j8 fun l=>ag e9<|iL l (cc 82 [pI 1,.p (.fn 86 []),.box 0 0,.box 1 0] [a.b,.box [pL 8 b]] fun a3 f1=>dP a3 fun j9=>af j9 fun m=>bF [a.b,.box [pL 8 b]] f1<|iL m rT rF) rF) rF) (cc 81 [pI 2,pI 3,.box 0 0] [a.b] fun a4 f2=>dP a4 fun l0=>af l0 fun o=>bF [a.b] f2<|iL o (cL (cp a.Kids 0) fun l1=>aP .i64 l1 fun e1=>cL (cp b e1) fun l3=>bn l3 fun i4=>cc 83 [pI i4.Op] [] fun a5 f3=>dP a5 fun l4=>af l4 fun p=>ag f3<|iL p (cc 82 [pI 1,.p (.fn 86 []),.box 0 0,.box 1 0] [a.b,.box [pL 8 b]] fun a6 f4=>dP a6 fun l5=>af l5 fun r=>bF [a.b,.box [pL 8 b]] f4<|iL r rT rF) rF) rF)) (iL (eqI a.Op 13) (cc 81 [pI 0,pI 1,.box 0 0] [a.b] fun a7 f5=>dP a7 fun l6=>af l6 fun s=>bF [a.b] f5<|iL s (cc 82 [pI 0,.p (.fn 83 []),.box 0 0,.box 1 0] [a.b,.box [pL 8 b]] fun a8 f6=>dP a8 fun l7=>af l7 fun t=>bF [a.b,.box [pL 8 b]] f6<|iL t rT rF) rF) (iL (eqI a.Op 18) (cc 82 [pI 0,.p (.fn 87 []),.box 0 0,.box 1 0] [a.b,.box [pL 8 b]] fun a9 f7=>dP a9 fun l8=>af l8 fun u=>bF [a.b,.box [pL 8 b]] f7<|iL u rT rF) rF)))))))))))))))))
def ū (n:Nat)(a:LD)(b:aK):=dA (fun cc=>Rb cc n a b) 53 [pL 8 a,.p b.e] [] 0 n be
end
end Go.Ab
