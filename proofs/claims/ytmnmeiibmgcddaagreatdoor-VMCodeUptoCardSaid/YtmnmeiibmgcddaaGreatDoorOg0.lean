import Derived.Test.YtmnmeiibmgcddaaGreatDoorDcA
import Derived.Test.YtmnmeiibmgcddaaGreatDoorAwZ
import Derived.KernelRfl
set_option linter.all false
namespace Go.Ab
open Go
set_option maxRecDepth 100000
noncomputable section
variable (cc:af)(n:Nat)
def sT (n:Nat)(a:LN):R:=iL (!cM a []) (iL (aV (↑a.length) 32) (cc 197 [pS a] [] fun c f=>dP c fun h=>aJ .i64 h fun e=>ag f<|iL (az e ↑a.length) (cc 198 [pS a] [] fun d g=>dP d fun i=>aE i fun b=>ag g<|iL b rF rT) rF) rF) rF
def Pf (n:Nat)(a:LN):=cT (fun cc=>sT cc n a) 178 [pS a] [] 0 n aH
def qL (cc:af)(n:Nat)(a:LN):R:=iL (cM a [97,99,116,111,114]) rT (iL (cM a [115,116,97,116,101]) rT (iL (cM a [109,101,116,104,111,100]) rT (iL (cM a [108,101,116]) rT (iL (cM a [105,102]) rT (iL (cM a [101,108,115,101]) rT (iL (cM a [119,104,105,108,101]) rT (iL (cM a [114,101,116,117,114,110]) rT (iL (cM a [102,97,105,108]) rT (iL (cM a [99,97,108,108]) rT (iL (cM a [101,109,105,116]) rT (iL (cM a [114,101,109,105,110,100]) rT (iL (cM a [99,97,110,99,101,108]) rT (iL (cM a [115,101,108,102]) rT (iL (cM a [116,114,117,101]) rT (iL (cM a [102,97,108,115,101]) rT (iL (cM a [105,110,116]) rT (iL (cM a [98,111,111,108]) rT (iL (cM a [115,116,114,105,110,103]) rT (iL (cM a [105,110,116,115]) rT (iL (cM a [115,116,114,105,110,103,115]) rT rF))))))))))))))))))))
def CD (n:Nat)(a:LN):=cT (fun cc=>qL cc n a) 198 [pS a] [] 0 n aH
def MB (n:Nat)(a:LN):R:=iL (cM a []) (some (pI 0,[])) (cL (bif aV 0 0 then a[Int.toNat 0]? else none) fun f=>cc 255 [.p (.int .u8 (Int.ofNat f))] [] fun c g=>dP c fun i=>aE i fun b=>ag g<|iL b (cc 195 [pS a,.p (.fn 256 [])] [] fun d h=>dP d fun j=>aJ .i64 j fun e=>ag h<|some (pI e,[])) (some (pI 0,[])))
def XK (n:Nat)(a:LN):=cT (fun cc=>MB cc n a) 197 [pS a] [] 0 n aH
def Ff (n:Nat)(a:Int):R:=cc 255 [.p (.int .u8 a)] [] fun d f=>dP d fun h=>aE h fun b=>ag f<|iL b rT (cc 199 [.p (.int .u8 a)] [] fun e g=>dP e fun i=>aE i fun c=>ag g<|iL c rT rF)
def SU (n:Nat)(a:Int):=cT (fun cc=>Ff cc n a) 256 [.p (.int .u8 a)] [] 0 n aH
def AQ (cc:af)(n:Nat)(a:Int):R:=iL (aV 97 a) (iL (aV a 122) rT (iL (aV 65 a) (iL (aV a 90) rT (iL (az a 95) rT rF)) (iL (az a 95) rT rF))) (iL (aV 65 a) (iL (aV a 90) rT (iL (az a 95) rT rF)) (iL (az a 95) rT rF))
def Ph (n:Nat)(a:Int):=cT (fun cc=>AQ cc n a) 255 [.p (.int .u8 a)] [] 0 n aH
def Fd (cc:af)(n:Nat)(a:Int):R:=iL (aV 48 a) (iL (aV a 57) rT rF) rF
def SS (n:Nat)(a:Int):=cT (fun cc=>Fd cc n a) 199 [.p (.int .u8 a)] [] 0 n aH
def Qw:=bZ (fm 195).body 1 0
abbrev xe:=LN×Int
def np (n:Nat)(c:(LN)×Int->R)(Y:xe->R):xe->R:=fun(b,a)=>iL (aK a ↑b.length) (cL (bif aV 0 a then b[Int.toNat a]? else none) fun f=>cc 256 [.p (.int .u8 (Int.ofNat f))] [] fun e g=>dP e fun h=>aE h fun d=>ag g<|iL d (Y (b,ab .i64 (a+1))) (c (b,a))) (c (b,a))
def QV:Rd eU xe:= .tl<| .s 0<| .v 1 (.P (.FP 256 .n))<| .i 5<| .h .n
def Su (J:JJ):=np cc n (fun(a,b)=>J (.exit 0) (tS 0 a<| .cons 1 (.p (.fn 256 []))<|tI 5 b<|tB 16 false .nil) [])
def B6:dr:=ga 423 QV (Su cc n) c7
def QJ {cc call}(hc:bE cc call)(n):bn (B6 cc n) call n 0 (423,[0,1,5],Qw,true):=cO aH hc aO
def Sj (s:LN):R:=itL (np cc n (fun(b,a)=>some (pI a,[]))) n (s,0)
def Ĵ (n:Nat)(s:LN):=jh (fun cc=>Sj cc n s) 195 [pS s,.p (.fn 256 [])] [] 0 n aH (fun cc=>B6 cc n) (fun hc=>bj (QJ hc n) aO)
def Hy:=bZ (fm 87).body 1 0
def Hz:=bZ (fm 87).body 1 1
def HA:=bZ (fm 87).body 1 2
def HD:=bZ (fm 87).body 1 3
def HE:=bZ (fm 87).body 1 4
def HB:=bZ (fm 87).body 1 5
def HC:=bZ (fm 87).body 1 6
abbrev xk:=aA
def mo (cc:af)(n:Nat)(b:Bool×aA->R):xk->R:=fun a=>iL (aK a.Kind 0) (b (true,a)) (iL (aK 5 a.Kind) (b (true,a)) (b (false,a)))
def IQ:Rd eU xk:= .rm (.o 1 0<| .h (.c (.Ob (.ci<| .ci<| .cs<| .cl 1<| .cl 1 .n)) .n)) (fun((b,(c,(d,(e,(f,()))))),())=>(aA.mk b c d e f)) (fun a=>((a.Kind,(a.N,(a.S,(a.I,(a.L,()))))),()))
def JT (J:JJ):=mo cc n (fun(b,a)=>J .norm (tO 1 0<|tB 12 b .nil) [.box [pI a.Kind,pI a.N,pS a.S,pL 1 a.I,pL 1 a.L]])
def ve:dr:=DG 101 IQ (JT cc n) c7
def Ig {cc call}(hc:bE cc call)(n):bn (ve cc n) call n 0 (101,[1],Hy,false):=qr gE hc aO
abbrev xl:=aA
def mq (cc:af)(n:Nat)(b:Bool×aA->R):xl->R:=fun a=>iL (!az a.N 0) (iL (!az a.Kind 1) (iL (!az a.Kind 2) (b (true,a)) (iL (!az a.N 1) (b (true,a)) (b (false,a)))) (b (false,a))) (b (false,a))
def IR:Rd eU xl:= .rm (.o 1 0<| .h (.c (.Ob (.ci<| .ci<| .cs<| .cl 1<| .cl 1 .n)) .n)) (fun((b,(c,(d,(e,(f,()))))),())=>(aA.mk b c d e f)) (fun a=>((a.Kind,(a.N,(a.S,(a.I,(a.L,()))))),()))
def JU (J:JJ):=mq cc n (fun(b,a)=>J .norm (tO 1 0<|tB 13 b .nil) [.box [pI a.Kind,pI a.N,pS a.S,pL 1 a.I,pL 1 a.L]])
def vf:dr:=DG 1693 IR (JU cc n) (ve cc n)
def Ih {cc call}(hc:bE cc call)(n):bn (vf cc n) call n 0 (1693,[1],Hz,false):=qr gE hc aO
abbrev xm:=aA
def mt (cc:af)(n:Nat)(b:Bool×aA->R):xm->R:=fun a=>iL (!cM a.S []) (iL (!az a.Kind 3) (b (true,a)) (b (false,a))) (b (false,a))
def IS:Rd eU xm:= .rm (.o 1 0<| .h (.c (.Ob (.ci<| .ci<| .cs<| .cl 1<| .cl 1 .n)) .n)) (fun((b,(c,(d,(e,(f,()))))),())=>(aA.mk b c d e f)) (fun a=>((a.Kind,(a.N,(a.S,(a.I,(a.L,()))))),()))
def JV (J:JJ):=mt cc n (fun(b,a)=>J .norm (tO 1 0<|tB 32 b .nil) [.box [pI a.Kind,pI a.N,pS a.S,pL 1 a.I,pL 1 a.L]])
def vg:dr:=DG 108453 IS (JV cc n) (vf cc n)
def Ii {cc call}(hc:bE cc call)(n):bn (vg cc n) call n 0 (108453,[1],HA,false):=qr gE hc aO
abbrev xn:=aA
def ij (cc:af)(n:Nat)(b:Bool×aA->R):xn->R:=fun a=>iL (aK 64 ↑a.S.length) (b (true,a)) (iL (aK 16 ↑a.I.length) (b (true,a)) (iL (aK 16 ↑a.L.length) (b (true,a)) (b (false,a))))
def IT:Rd eU xn:= .rm (.o 1 0<| .h (.c (.Ob (.ci<| .ci<| .cs<| .cl 1<| .cl 1 .n)) .n)) (fun((b,(c,(d,(e,(f,()))))),())=>(aA.mk b c d e f)) (fun a=>((a.Kind,(a.N,(a.S,(a.I,(a.L,()))))),()))
def JW (J:JJ):=ij cc n (fun(b,a)=>J .norm (tO 1 0<|tB 74 b .nil) [.box [pI a.Kind,pI a.N,pS a.S,pL 1 a.I,pL 1 a.L]])
def vh:dr:=DG 1701 IT (JW cc n) (vg cc n)
def Ij {cc call}(hc:bE cc call)(n):bn (vh cc n) call n 0 (1701,[1],HB,false):=qr gE hc aO
abbrev mg:=LD×Int×Int
def dJ (cc:af)(n:Nat)(d:R)(e:mg->R)(Y:mg->R):mg->R:=fun(c,b,a)=>iL (aK a b) (cL (bI c a) fun g=>dG g fun f=>iL (aK 64 ↑f.length) (d) (Y (c,b,ab .i64 (a+1)))) (e (c,b,a))
def IU:Rd eU mg:= .tl<| .l 76 1<| .i 77<| .i 78<| .h .n
def JX (J:JJ):=dJ cc n (J .ret (tB 2 false .nil) []) (fun(a,b,c)=>J (.exit 1) (tL 76 1 a<|tI 77 b<|tI 78 c<|tB 79 false .nil) [])
def vi:dr:=ga 27291 IU (JX cc n) (vh cc n)
def Ik {cc call}(hc:bE cc call)(n):bn (vi cc n) call n 0 (27291,[76,77,78],HC,true):=cO gE hc aO
abbrev xp:=aA
def mu (cc:af)(n:Nat)(b:Bool×aA->R):xp->R:=fun a=>iL (aK 0 ↑a.I.length) (iL (!az a.Kind 4) (b (true,a)) (b (false,a))) (b (false,a))
def IV:Rd eU xp:= .rm (.o 1 0<| .h (.c (.Ob (.ci<| .ci<| .cs<| .cl 1<| .cl 1 .n)) .n)) (fun((b,(c,(d,(e,(f,()))))),())=>(aA.mk b c d e f)) (fun a=>((a.Kind,(a.N,(a.S,(a.I,(a.L,()))))),()))
def JY (J:JJ):=mu cc n (fun(b,a)=>J .norm (tO 1 0<|tB 32 b .nil) [.box [pI a.Kind,pI a.N,pS a.S,pL 1 a.I,pL 1 a.L]])
def vj:dr:=DG 1735273 IV (JY cc n) (vi cc n)
def Il {cc call}(hc:bE cc call)(n):bn (vj cc n) call n 0 (1735273,[1],HD,false):=qr gE hc aO
abbrev xq:=aA
def mw (cc:af)(n:Nat)(b:Bool×aA->R):xq->R:=fun a=>iL (aK 0 ↑a.L.length) (iL (!az a.Kind 5) (b (true,a)) (b (false,a))) (b (false,a))
def IW:Rd eU xq:= .rm (.o 1 0<| .h (.c (.Ob (.ci<| .ci<| .cs<| .cl 1<| .cl 1 .n)) .n)) (fun((b,(c,(d,(e,(f,()))))),())=>(aA.mk b c d e f)) (fun a=>((a.Kind,(a.N,(a.S,(a.I,(a.L,()))))),()))
def JZ (J:JJ):=mw cc n (fun(b,a)=>J .norm (tO 1 0<|tB 32 b .nil) [.box [pI a.Kind,pI a.N,pS a.S,pL 1 a.I,pL 1 a.L]])
def vk:dr:=DG 6941098 IW (JZ cc n) (vj cc n)
def Im {cc call}(hc:bE cc call)(n):bn (vk cc n) call n 0 (6941098,[1],HE,false):=qr gE hc aO
def w9 (p:aA):R:=mo cc n (fun(i,q)=>iL i rF (mq cc n (fun(o,s)=>iL o rF (mt cc n (fun(b,g)=>iL b (iL b rF (ij cc n (fun(h,c)=>iL h rF (itL (dJ cc n rF (fun(z,t,u)=>rT)) n (c.L,↑c.L.length,0))) g)) (mu cc n (fun(a,d)=>iL a (iL a rF (ij cc n (fun(j,e)=>iL j rF (itL (dJ cc n rF (fun(A,v,w)=>rT)) n (e.L,↑e.L.length,0))) d)) (mw cc n (fun(l,r)=>iL l rF (ij cc n (fun(m,f)=>iL m rF (itL (dJ cc n rF (fun(B,x,y)=>rT)) n (f.L,↑f.L.length,0))) r)) d)) g)) s)) q)) p
def Ts (n:Nat)(a:aA):=jh (fun cc=>w9 cc n a) 87 [.p a.e] [] 0 n gE (fun cc=>vk cc n) (fun hc=>bj (ja (ja (zX (ja (ja (ja (Ig hc n))))))) (bj (ja (ja (zX (ja (ja (Ih hc n)))))) (bj (ja (ja (zX (ja (Ii hc n))))) (bj (ja (Il hc n)) (bj (Im hc n) (bj (ja (ja (zX (Ij hc n)))) (bj (ja (ja (Ik hc n))) aO)))))))
def MI (n:Nat)(a:aA)(b:aA):R:=iL (az a.Kind b.Kind) (iL (az a.N b.N) (iL (cM a.S b.S) (cc 88 [pL 1 a.I,pL 1 b.I] [] fun e g=>dP e fun i=>aE i fun c=>ag g<|iL c (cc 89 [pL 1 a.L,pL 1 b.L] [] fun f h=>dP f fun j=>aE j fun d=>ag h<|iL d rT rF) rF) rF) rF) rF
def XR (n:Nat)(a:aA)(b:aA):=cT (fun cc=>MI cc n a b) 48 [.p a.e,.p b.e] [] 0 n aH
def HH:=bZ (fm 88).body 1 0
abbrev mj:=LD×LD×Int×Int
def jT (cc:af)(n:Nat)(g:R)(h:mj->R)(Y:mj->R):mj->R:=fun(c,d,b,a)=>iL (aK a b) (cL (bI c a) fun i=>aJ .i64 i fun e=>cL (bI d a) fun j=>aJ .i64 j fun f=>iL (!az e f) (g) (Y (c,d,b,ab .i64 (a+1)))) (h (c,d,b,a))
def IZ:Rd eU mj:= .tl<| .l 0 1<| .l 1 1<| .i 12<| .i 13<| .h .n
def J2 (J:JJ):=jT cc n (J .ret (tB 4 false .nil) []) (fun(a,b,c,d)=>J (.exit 0) (tL 0 1 a<|tL 1 1 b<|tI 12 c<|tI 13 d<|tB 14 false .nil) [])
def vn:dr:=ga 1691 IZ (J2 cc n) c7
def Ip {cc call}(hc:bE cc call)(n):bn (vn cc n) call n 0 (1691,[0,1,12,13],HH,true):=cO aH hc aO
def FL (a:LD)(b:LD):R:=iL (!az ↑a.length ↑b.length) rF (itL (jT cc n rF (fun(f,e,c,d)=>rT)) n (a,b,↑a.length,0))
def Tx (n:Nat)(a:LD)(b:LD):=jh (fun cc=>FL cc n a b) 88 [pL 1 a,pL 1 b] [] 0 n aH (fun cc=>vn cc n) (fun hc=>bj (Ip hc n) aO)
def HI:=bZ (fm 89).body 1 0
abbrev mm:=LD×LD×Int×Int
def jU (cc:af)(n:Nat)(e:R)(f:mm->R)(Y:mm->R):mm->R:=fun(c,d,b,a)=>iL (aK a b) (cL (bI c a) fun i=>dG i fun g=>cL (bI d a) fun j=>dG j fun h=>iL (!cM g h) (e) (Y (c,d,b,ab .i64 (a+1)))) (f (c,d,b,a))
def I0:Rd eU mm:= .tl<| .l 0 1<| .l 1 1<| .i 12<| .i 13<| .h .n
def J3 (J:JJ):=jU cc n (J .ret (tB 4 false .nil) []) (fun(a,b,c,d)=>J (.exit 0) (tL 0 1 a<|tL 1 1 b<|tI 12 c<|tI 13 d<|tB 14 false .nil) [])
def vo:dr:=ga 1691 I0 (J3 cc n) c7
def Iq {cc call}(hc:bE cc call)(n):bn (vo cc n) call n 0 (1691,[0,1,12,13],HI,true):=cO gE hc aO
def FM (a:LD)(b:LD):R:=iL (!az ↑a.length ↑b.length) rF (itL (jU cc n rF (fun(f,e,c,d)=>rT)) n (a,b,↑a.length,0))
def Tz (n:Nat)(a:LD)(b:LD):=jh (fun cc=>FM cc n a b) 89 [pL 1 a,pL 1 b] [] 0 n gE (fun cc=>vo cc n) (fun hc=>bj (Iq hc n) aO)
def AH (cc:af)(n:Nat)(a:Int):R:=iL (aV 1 a) (iL (aV a 5) rT rF) rF
def O7 (n:Nat)(a:Int):=cT (fun cc=>AH cc n a) 183 [pI a] [] 0 n aH
def E6 (cc:af)(n:Nat)(a:Int):R:=iL (aV 2 a) (iL (aV a 5) rT (iL (az a 26) rT (iL (az a 27) rT (iL (aV 28 a) (iL (aV a 30) rT rF) rF)))) (iL (az a 26) rT (iL (az a 27) rT (iL (aV 28 a) (iL (aV a 30) rT rF) rF)))
def SL (n:Nat)(a:Int):=cT (fun cc=>E6 cc n a) 243 [pI a] [] 0 n aH
def AN (cc:af)(n:Nat)(a:Int)(b:Int):R:=iL (aV 0 a) (iL (aK a b) rT rF) rF
def Pd (n:Nat)(a:Int)(b:Int):=cT (fun cc=>AN cc n a b) 244 [pI a,pI b] [] 0 n aH
def Du:=bZ (fm 187).body 1 0
def Dv:=bZ (fm 187).body 1 1
def Dw:=bZ (fm 187).body 1 2
def Dx:=bZ (fm 187).body 1 3
abbrev ur:=aq×ah×aj×au
def kE (n:Nat)(b:Bool×aq×ah×aj×au->R):ur->R:=fun(c,d,e,a)=>iL (aK a.Op 1) (b (true,c,d,e,a)) (iL (aK 36 a.Op) (b (true,c,d,e,a)) (cc 243 [pI a.Op] [] fun g h=>dP g fun i=>aE i fun f=>ag h<|iL f (iL (!az a.Op 30) (iL (!az a.B 0) (b (true,c,d,e,a)) (b (false,c,d,e,a))) (b (false,c,d,e,a))) (iL (!az a.A 0) (b (true,c,d,e,a)) (iL (!az a.Op 30) (iL (!az a.B 0) (b (true,c,d,e,a)) (b (false,c,d,e,a))) (b (false,c,d,e,a))))))
def El:Rd eU ur:= .rm (.o 4 0<| .o 5 1<| .o 6 2<| .o 7 3<| .h (.c (.Ob (.cl 3 .n))<| .c (.Ob (.cs<| .cl 7<| .cl 5 .n)) (.c (.Ob (.cs<| .cl 1<| .ci<| .cl 1<| .cl 8 .n)) (.c (.Ob (.ci<| .ci<| .ci<| .ci<| .ci<| .cs<| .cl 1<| .cl 1 .n)) .n)))) (fun((e,()),((f,(o,(p,()))),((q,(r,(s,(t,(u,()))))),((v,(g,(h,(i,(j,(l,(m,(n,())))))))),()))))=>((aq.mk e),(ah.mk f o p),(aj.mk q r s t u),(au.mk v g h i j l m n))) (fun(d,c,b,a)=>((d.Types,()),((c.Name,(c.Fields,(c.Methods,()))),((b.Name,(b.Params,(b.Result,(b.Locals,(b.Code,()))))),((a.Op,(a.A,(a.B,(a.Value_Kind,(a.Value_N,(a.Value_S,(a.Value_I,(a.Value_L,())))))))),())))))
def F6 (J:JJ):=kE cc n (fun(d,e,c,b,a)=>J .norm (tO 4 0<|tO 5 1<|tO 6 2<|tO 7 3<|tB 38 d .nil) [.box [pL 3 e.Types],.box [pS c.Name,pL 7 c.Fields,pL 5 c.Methods],.box [pS b.Name,pL 1 b.Params,pI b.Result,pL 1 b.Locals,pL 8 b.Code],.box [pI a.Op,pI a.A,pI a.B,pI a.Value_Kind,pI a.Value_N,pS a.Value_S,pL 1 a.Value_I,pL 1 a.Value_L]])
def so:dr:=DG 101 El (F6 cc n) c7
def DX {cc call}(hc:bE cc call)(n):bn (so cc n) call n 0 (101,[4,5,6,7],Du,false):=qr bS hc aO
abbrev ut:=aq×ah×aj×au
def kF (n:Nat)(b:Bool×aq×ah×aj×au->R):ut->R:=fun(c,d,e,a)=>iL (!az a.Op 1) (cc 48 [.p (.agg [.int .i64 a.Value_Kind,.int .i64 a.Value_N,.str a.Value_S,.slice 1 a.Value_I,.slice 1 a.Value_L]),.p (.agg [.int .i64 0,.int .i64 0,.str [],.slice 1 [],.slice 1 []])] [] fun g h=>dP g fun i=>aE i fun f=>ag h<|iL f (b (false,c,d,e,a)) (b (true,c,d,e,a))) (b (false,c,d,e,a))
def Em:Rd eU ut:= .rm (.o 4 0<| .o 5 1<| .o 6 2<| .o 7 3<| .h (.c (.Ob (.cl 3 .n))<| .c (.Ob (.cs<| .cl 7<| .cl 5 .n)) (.c (.Ob (.cs<| .cl 1<| .ci<| .cl 1<| .cl 8 .n)) (.c (.Ob (.ci<| .ci<| .ci<| .ci<| .ci<| .cs<| .cl 1<| .cl 1 .n)) .n)))) (fun((e,()),((f,(o,(p,()))),((q,(r,(s,(t,(u,()))))),((v,(g,(h,(i,(j,(l,(m,(n,())))))))),()))))=>((aq.mk e),(ah.mk f o p),(aj.mk q r s t u),(au.mk v g h i j l m n))) (fun(d,c,b,a)=>((d.Types,()),((c.Name,(c.Fields,(c.Methods,()))),((b.Name,(b.Params,(b.Result,(b.Locals,(b.Code,()))))),((a.Op,(a.A,(a.B,(a.Value_Kind,(a.Value_N,(a.Value_S,(a.Value_I,(a.Value_L,())))))))),())))))
def F7 (J:JJ):=kF cc n (fun(d,e,c,b,a)=>J .norm (tO 4 0<|tO 5 1<|tO 6 2<|tO 7 3<|tB 48 d .nil) [.box [pL 3 e.Types],.box [pS c.Name,pL 7 c.Fields,pL 5 c.Methods],.box [pS b.Name,pL 1 b.Params,pI b.Result,pL 1 b.Locals,pL 8 b.Code],.box [pI a.Op,pI a.A,pI a.B,pI a.Value_Kind,pI a.Value_N,pS a.Value_S,pL 1 a.Value_I,pL 1 a.Value_L]])
def sq:dr:=DG 421 Em (F7 cc n) (so cc n)
def DY {cc call}(hc:bE cc call)(n):bn (sq cc n) call n 0 (421,[4,5,6,7],Dv,false):=qr bS hc aO
abbrev uu:=au
def kG (n:Nat)(b:Bool×au->R):uu->R:=fun a=>cc 87 [.p (.agg [.int .i64 a.Value_Kind,.int .i64 a.Value_N,.str a.Value_S,.slice 1 a.Value_I,.slice 1 a.Value_L])] [] fun d e=>dP d fun f=>aE f fun c=>ag e<|iL c (iL (!az a.Value_Kind 0) (b (true,a)) (b (false,a))) (b (false,a))
def En:Rd eU uu:= .rm (.o 7 0<| .h (.c (.Ob (.ci<| .ci<| .ci<| .ci<| .ci<| .cs<| .cl 1<| .cl 1 .n)) .n)) (fun((b,(c,(d,(e,(f,(g,(h,(i,())))))))),())=>(au.mk b c d e f g h i)) (fun a=>((a.Op,(a.A,(a.B,(a.Value_Kind,(a.Value_N,(a.Value_S,(a.Value_I,(a.Value_L,())))))))),()))
def F8 (J:JJ):=kG cc n (fun(b,a)=>J .norm (tB 8 b .nil) [.box [pI a.Op,pI a.A,pI a.B,pI a.Value_Kind,pI a.Value_N,pS a.Value_S,pL 1 a.Value_I,pL 1 a.Value_L]])
def sr:dr:=DG 1746661 En (F8 cc n) (sq cc n)
def DZ {cc call}(hc:bE cc call)(n):bn (sr cc n) call n 0 (1746661,[7],Dw,false):=qr bS hc aO
abbrev uv:=aq×au
def kH (n:Nat)(c:Bool×aq×au->R):uv->R:=fun(b,a)=>cc 244 [pI a.A,pI (↑b.Types.length)] [] fun f h=>dP f fun l=>aE l fun d=>ag h<|iL d (cL (bI b.Types a.A) fun m=>aF m fun j=>cc 244 [pI a.B,pI (↑j.Methods.length)] [] fun g i=>dP g fun o=>aE o fun e=>ag i<|iL e (c (true,b,a)) (c (false,b,a))) (c (false,b,a))
def Eo:Rd eU uv:= .rm (.o 4 0<| .o 7 1<| .v 9 (.P (.FP 244 .n))<| .h (.c (.Ob (.cl 3 .n))<| .c (.Ob (.ci<| .ci<| .ci<| .ci<| .ci<| .cs<| .cl 1<| .cl 1 .n)) .n)) (fun((c,()),((d,(e,(f,(g,(h,(i,(j,(l,())))))))),()))=>((aq.mk c),(au.mk d e f g h i j l))) (fun(b,a)=>((b.Types,()),((a.Op,(a.A,(a.B,(a.Value_Kind,(a.Value_N,(a.Value_S,(a.Value_I,(a.Value_L,())))))))),())))
def F9 (J:JJ):=kH cc n (fun(b,c,a)=>J .norm (tB 8 b .nil) [.box [pL 3 c.Types],.box [pI a.Op,pI a.A,pI a.B,pI a.Value_Kind,pI a.Value_N,pS a.Value_S,pL 1 a.Value_I,pL 1 a.Value_L]])
def su:dr:=DG 1831512746661 Eo (F9 cc n) (sr cc n)
def D0 {cc call}(hc:bE cc call)(n):bn (su cc n) call n 0 (1831512746661,[4,7,9],Dx,false):=qr bS hc aO
def AM (H:aq)(I:ah)(J:aj)(K:au):R:=kE cc n (fun(q,L,M,N,O)=>iL q rF (kF cc n (fun(d,P,c,b,a)=>iL d rF (iL (az a.Op 1) (kG cc n (fun(e,a1)=>some (pB e,[])) a) (iL (az a.Op 2) (cc 244 [pI a.A,pI (↑b.Locals.length)] [] fun r z=>dP r fun S=>aE S fun f=>ag z<|iL f rT rF) (iL (az a.Op 3) (cc 244 [pI a.A,pI (↑b.Locals.length)] [] fun s A=>dP s fun T=>aE T fun g=>ag A<|iL g rT rF) (iL (az a.Op 4) (cc 244 [pI a.A,pI (↑c.Fields.length)] [] fun t B=>dP t fun U=>aE U fun h=>ag B<|iL h rT rF) (iL (az a.Op 5) (cc 244 [pI a.A,pI (↑c.Fields.length)] [] fun u C=>dP u fun V=>aE V fun i=>ag C<|iL i rT rF) (iL (az a.Op 26) (cc 244 [pI a.A,pI 17] [] fun v D=>dP v fun W=>aE W fun j=>ag D<|iL j rT rF) (iL (az a.Op 27) (cc 244 [pI a.A,pI 17] [] fun w E=>dP w fun X=>aE X fun l=>ag E<|iL l rT rF) (iL (az a.Op 28) (cc 244 [pI a.A,pI (↑b.Code.length)] [] fun x F=>dP x fun Z=>aE Z fun m=>ag F<|iL m rT rF) (iL (az a.Op 29) (cc 244 [pI a.A,pI (↑b.Code.length)] [] fun y G=>dP y fun a0=>aE a0 fun o=>ag G<|iL o rT rF) (iL (az a.Op 30) (kH cc n (fun(p,a2,a3)=>some (pB p,[])) (P,a)) rT))))))))))) (L,M,N,O))) (H,I,J,K)
def Pc (n:Nat)(a:aq)(b:ah)(c:aj)(d:au):=jh (fun cc=>AM cc n a b c d) 187 [.p a.e,.p b.e,.p c.e,.p d.e] [] 0 n bS (fun cc=>su cc n) (fun hc=>bj (ja (ja (ja (DX hc n)))) (bj (ja (ja (DY hc n))) (bj (ja (DZ hc n)) (bj (D0 hc n) aO))))
def E7 (n:Nat)(l:LD)(t:ah)(m:aj)(x:au):R:=cc 187 [.p (.agg [.slice 3 l]),.p (.agg [.str t.Name,.slice 7 t.Fields,.slice 5 t.Methods]),.p (.agg [.str m.Name,.slice 1 m.Params,.int .i64 m.Result,.slice 1 m.Locals,.slice 8 m.Code]),.p x.e] [] fun b c=>dP b fun d=>aE d fun a=>ag c<|iL a (some (pB false,[.box [pL 3 l],.box [pS t.Name,pL 7 t.Fields,pL 5 t.Methods],.box [pS m.Name,pL 1 m.Params,pI m.Result,pL 1 m.Locals,pL 8 m.Code]])) (some (pB true,[.box [pL 3 l],.box [pS t.Name,pL 7 t.Fields,pL 5 t.Methods],.box [pS m.Name,pL 1 m.Params,pI m.Result,pL 1 m.Locals,pL 8 m.Code]]))
def SM (n:Nat)(l:LD)(t:ah)(m:aj)(x:au):=cT (fun cc=>E7 cc n l t m x) 186 [.p x.e,.box 0 0,.box 1 0,.box 2 0] [.box [pL 3 l],t.b,m.b] 3 n aH
def wT (n:Nat)(d:LD):R:=cc 240 [pL 1 d,.p (.fn 241 [])] [] fun b c=>dP b fun e=>aE e fun a=>cD [] c<|iL a rF rT
def J8 (n:Nat)(a:LD):=cT (fun cc=>wT cc n a) 184 [pL 1 a] [] 0 n aH
def AI (n:Nat)(d:Int):R:=cc 183 [pI d] [] fun b c=>dP b fun e=>aE e fun a=>ag c<|iL a rF rT
def O8 (n:Nat)(a:Int):=cT (fun cc=>AI cc n a) 241 [pI a] [] 0 n aH
def Fm (n:Nat)(l:LD):R:=cc 302 [pL 1 l,.p (.fn 241 [])] [] fun a c=>dP a fun d=>aJ .i64 d fun b=>cD [] c<|iL (aV 0 b) rT rF
def S6 (n:Nat)(l:LD):=cT (fun cc=>Fm cc n l) 240 [pL 1 l,.p (.fn 241 [])] [] 0 n aH
def Lc:=bZ (fm 302).body 1 0
abbrev oB:=LD×Int×Int
def ll (n:Nat)(g:Int->R)(h:oB->R)(Y:oB->R):oB->R:=fun(c,b,a)=>iL (aK a b) (cL (bI c a) fun j=>aJ .i64 j fun f=>cc 241 [pI f] [] fun e i=>dP e fun l=>aE l fun d=>ag i<|iL d (g a) (Y (c,b,ab .i64 (a+1)))) (h (c,b,a))
def L1:Rd eU oB:= .tl<| .l 0 1<| .v 1 (.P (.FP 241 .n))<| .i 7<| .i 8<| .h .n
def OX (J:JJ):=ll cc n (fun a=>J .ret (tI 4 a .nil) []) (fun(a,b,c)=>J (.exit 0) (tL 0 1 a<| .cons 1 (.p (.fn 241 []))<|tI 7 b<|tI 8 c<|tB 9 false .nil) [])
def zk:dr:=ga 411 L1 (OX cc n) c7
def Ly {cc call}(hc:bE cc call)(n):bn (zk cc n) call n 0 (411,[0,1,7,8],Lc,true):=cO aH hc aO
def MC (l:LD):R:=itL (ll cc n (fun a=>some (pI a,[])) (fun(d,b,c)=>some (pI (-1),[]))) n (l,↑l.length,0)
def XL (n:Nat)(l:LD):=jh (fun cc=>MC cc n l) 302 [pL 1 l,.p (.fn 241 [])] [] 0 n aH (fun cc=>zk cc n) (fun hc=>bj (Ly hc n) aO)
def Qy:=bZ (fm 110).body 1 0
abbrev qP:=LD×LD×Int×Int
def nr (cc:af)(n:Nat)(g:R)(h:qP->R)(Y:qP->R):qP->R:=fun(c,d,b,a)=>iL (aK a b) (cL (bI c a) fun i=>aJ .i64 i fun e=>cL (bI d a) fun j=>aJ .i64 j fun f=>iL (!az e f) (g) (Y (c,d,b,ab .i64 (a+1)))) (h (c,d,b,a))
def QX:Rd eU qP:= .tl<| .l 0 1<| .l 1 1<| .i 12<| .i 13<| .h .n
def Sw (J:JJ):=nr cc n (J .ret (tB 4 false .nil) []) (fun(a,b,c,d)=>J (.exit 0) (tL 0 1 a<|tL 1 1 b<|tI 12 c<|tI 13 d<|tB 14 false .nil) [])
def B8:dr:=ga 1691 QX (Sw cc n) c7
def QL {cc call}(hc:bE cc call)(n):bn (B8 cc n) call n 0 (1691,[0,1,12,13],Qy,true):=cO aH hc aO
def Sm (a:LD)(b:LD):R:=iL (!az ↑a.length ↑b.length) rF (itL (nr cc n rF (fun(f,e,c,d)=>rT)) n (a,b,↑a.length,0))
def ķ (n:Nat)(a:LD)(b:LD):=jh (fun cc=>Sm cc n a b) 110 [pL 1 a,pL 1 b] [] 0 n aH (fun cc=>B8 cc n) (fun hc=>bj (QL hc n) aO)
def Fo (n:Nat)(l:LD)(t:ah)(m:aj)(q:LD):R:=cc 242 [pL 8 q,.fn 186 [.box 0 0,.box 1 0,.box 2 0]] [.box [pL 3 l],.box [pS t.Name,pL 7 t.Fields,pL 5 t.Methods],.box [pS m.Name,pL 1 m.Params,pI m.Result,pL 1 m.Locals,pL 8 m.Code]] fun a c=>dP a fun d=>aJ .i64 d fun b=>cD [.box [pL 3 l],.box [pS t.Name,pL 7 t.Fields,pL 5 t.Methods],.box [pS m.Name,pL 1 m.Params,pI m.Result,pL 1 m.Locals,pL 8 m.Code]] c<|iL (aV 0 b) (some (pB true,[.box [pL 3 l],.box [pS t.Name,pL 7 t.Fields,pL 5 t.Methods],.box [pS m.Name,pL 1 m.Params,pI m.Result,pL 1 m.Locals,pL 8 m.Code]])) (some (pB false,[.box [pL 3 l],.box [pS t.Name,pL 7 t.Fields,pL 5 t.Methods],.box [pS m.Name,pL 1 m.Params,pI m.Result,pL 1 m.Locals,pL 8 m.Code]]))
def S7 (n:Nat)(l:LD)(t:ah)(m:aj)(q:LD):=cT (fun cc=>Fo cc n l t m q) 185 [pL 8 q,.fn 186 [.box 0 0,.box 1 0,.box 2 0]] [.box [pL 3 l],t.b,m.b] 3 n aH
def Ht:=bZ (fm 242).body 1 0
abbrev lZ:=LD×Int×Int×aq×ah×aj
def jP (n:Nat)(i:Int×aq×ah×aj->R)(j:lZ->R)(Y:lZ->R):lZ->R:=fun(f,e,c,d,b,a)=>iL (aK c e) (cL (bI f c) fun p=>bd p fun m=>cc 186 [.p m.e,.box 0 0,.box 1 0,.box 2 0] [.box [pL 3 d.Types],.box [pS b.Name,pL 7 b.Fields,pL 5 b.Methods],.box [pS a.Name,pL 1 a.Params,pI a.Result,pL 1 a.Locals,pL 8 a.Code]] fun h l=>dP h fun o=>aE o fun g=>cD [.box [pL 3 d.Types],.box [pS b.Name,pL 7 b.Fields,pL 5 b.Methods],.box [pS a.Name,pL 1 a.Params,pI a.Result,pL 1 a.Locals,pL 8 a.Code]] l<|iL g (i (c,d,b,a)) (Y (f,e,ab .i64 (c+1),d,b,a))) (j (f,e,c,d,b,a))
def IK:Rd eU lZ:= .rm (.l 0 8<| .v 1 (.F 186 (.co 0<| .co 1<| .co 2 .n))<| .i 7<| .i 8<| .h (.c (.Ob (.cl 3 .n))<| .c (.Ob (.cs<| .cl 7<| .cl 5 .n)) (.c (.Ob (.cs<| .cl 1<| .ci<| .cl 1<| .cl 8 .n)) .n))) (fun(g,(h,(l,((m,()),((n,(o,(p,()))),((q,(r,(s,(i,(j,()))))),()))))))=>(g,h,l,(aq.mk m),(ah.mk n o p),(aj.mk q r s i j))) (fun(c,d,e,f,b,a)=>(c,(d,(e,((f.Types,()),((b.Name,(b.Fields,(b.Methods,()))),((a.Name,(a.Params,(a.Result,(a.Locals,(a.Code,()))))),())))))))
def JO (J:JJ):=jP cc n (fun(d,e,b,a)=>J .ret (tI 4 d .nil) [.box [pL 3 e.Types],.box [pS b.Name,pL 7 b.Fields,pL 5 b.Methods],.box [pS a.Name,pL 1 a.Params,pI a.Result,pL 1 a.Locals,pL 8 a.Code]]) (fun(d,e,b,a,f,c)=>J (.exit 0) (tL 0 8 d<| .cons 1 (.fn 186 [(.box 0 0),(.box 1 0),(.box 2 0)])<|tI 7 e<|tI 8 b<|tB 9 false .nil) [.box [pL 3 a.Types],.box [pS f.Name,pL 7 f.Fields,pL 5 f.Methods],.box [pS c.Name,pL 1 c.Params,pI c.Result,pL 1 c.Locals,pL 8 c.Code]])
def uX:dr:=ga 411 IK (JO cc n) c7
def Ia {cc call}(hc:bE cc call)(n):bn (uX cc n) call n 3 (411,[0,1,7,8],Ht,true):=cO aH hc aO
def Fs (l:LD)(t:ah)(m:aj)(q:LD):R:=itL (jP cc n (fun(e,f,c,a)=>some (pI e,[.box [pL 3 f.Types],.box [pS c.Name,pL 7 c.Fields,pL 5 c.Methods],.box [pS a.Name,pL 1 a.Params,pI a.Result,pL 1 a.Locals,pL 8 a.Code]])) (fun(j,h,i,g,d,b)=>some (pI (-1),[.box [pL 3 g.Types],.box [pS d.Name,pL 7 d.Fields,pL 5 d.Methods],.box [pS b.Name,pL 1 b.Params,pI b.Result,pL 1 b.Locals,pL 8 b.Code]]))) n (q,↑q.length,0,aq.mk l,t,m)
def Ta (n:Nat)(l:LD)(t:ah)(m:aj)(q:LD):=jh (fun cc=>Fs cc n l t m q) 242 [pL 8 q,.fn 186 [.box 0 0,.box 1 0,.box 2 0]] [.box [pL 3 l],t.b,m.b] 3 n aH (fun cc=>uX cc n) (fun hc=>bj (Ia hc n) aO)
def My (n:Nat)(c:aq)(b:ah)(a:aj):R:=iL (aK 4 ↑a.Params.length) rF (cc 184 [pL 1 a.Params] [] fun m y=>dP m fun I=>aE I fun j=>ag y<|iL j (iL (!az a.Result 0) (cc 183 [pI a.Result] [] fun t C=>dP t fun K=>aE K fun l=>ag C<|iL l (iL (aK 8 ↑a.Locals.length) rF (cc 184 [pL 1 a.Locals] [] fun u v=>dP u fun D=>aE D fun d=>ag v<|iL d (iL (aK ↑a.Locals.length ↑a.Params.length) rF (iL (aV ↑a.Params.length ↑a.Locals.length) (cc 110 [pL 1 (List.take (Int.toNat ↑a.Params.length - 0) (List.drop 0 a.Locals)),pL 1 a.Params] [] fun o w=>dP o fun E=>aE E fun e=>cD [] w<|iL e (iL (az (↑a.Code.length) 0) rF (cc 185 [pL 8 a.Code,.fn 186 [.box 0 0,.box 1 0,.box 2 0]] [.box [pL 3 c.Types],.box [pS b.Name,pL 7 b.Fields,pL 5 b.Methods],.box [pS a.Name,pL 1 a.Params,pI a.Result,pL 1 a.Locals,pL 8 a.Code]] fun p x=>dP p fun F=>aE F fun f=>cD [.box [pL 3 c.Types],.box [pS b.Name,pL 7 b.Fields,pL 5 b.Methods],.box [pS a.Name,pL 1 a.Params,pI a.Result,pL 1 a.Locals,pL 8 a.Code]] x<|iL f rF rT)) rF) (none))) rF)) rF) (iL (aK 8 ↑a.Locals.length) rF (cc 184 [pL 1 a.Locals] [] fun q z=>dP q fun G=>aE G fun g=>ag z<|iL g (iL (aK ↑a.Locals.length ↑a.Params.length) rF (iL (aV ↑a.Params.length ↑a.Locals.length) (cc 110 [pL 1 (List.take (Int.toNat ↑a.Params.length - 0) (List.drop 0 a.Locals)),pL 1 a.Params] [] fun r A=>dP r fun H=>aE H fun h=>cD [] A<|iL h (iL (az (↑a.Code.length) 0) rF (cc 185 [pL 8 a.Code,.fn 186 [.box 0 0,.box 1 0,.box 2 0]] [.box [pL 3 c.Types],.box [pS b.Name,pL 7 b.Fields,pL 5 b.Methods],.box [pS a.Name,pL 1 a.Params,pI a.Result,pL 1 a.Locals,pL 8 a.Code]] fun s B=>dP s fun J=>aE J fun i=>cD [.box [pL 3 c.Types],.box [pS b.Name,pL 7 b.Fields,pL 5 b.Methods],.box [pS a.Name,pL 1 a.Params,pI a.Result,pL 1 a.Locals,pL 8 a.Code]] B<|iL i rF rT)) rF) (none))) rF))) rF)
def XH (n:Nat)(a:aq)(b:ah)(c:aj):=cT (fun cc=>My cc n a b c) 107 [.p a.e,.p b.e,.p c.e] [] 0 n aH
def JB (cc:af)(n:Nat)(a:Bool):R:=iL a (some (.p (.agg [.int .i64 2,.int .i64 1,.str [],.slice 1 [],.slice 1 []]),[])) (some (.p (.agg [.int .i64 2,.int .i64 0,.str [],.slice 1 [],.slice 1 []]),[]))
def Kg (n:Nat)(a:Bool):=cT (fun cc=>JB cc n a) 296 [pB a] [] 0 n bY
def JC (cc:af)(n:Nat)(a:Int):R:=some (.p (.agg [.int .i64 1,.int .i64 a,.str [],.slice 1 [],.slice 1 []]),[])
def Kj (n:Nat)(a:Int):=cT (fun cc=>JC cc n a) 298 [pI a] [] 0 n bY
def MH (cc:af)(n:Nat)(a:aA)(b:aA):R:=iL (az a.Kind 3) (some (pB (Ä a.S b.S),[])) (some (pB (aK a.N b.N),[]))
def XQ (n:Nat)(a:aA)(b:aA):=cT (fun cc=>MH cc n a b) 299 [.p a.e,.p b.e] [] 0 n bY
def Fu (n:Nat)(m:LN)(a:aA):R:=iL (cM m [33]) (cc 296 [pB (az a.N 0)] [] fun b j=>dP b fun w=>ao w fun s=>ag j<|some (.tup [.p s.e,pI 0],[])) (cc 297 [pS [45],pI 0,pI a.N] [] fun e l=>bQ e fun p=>aa p fun f q=>dP f fun t=>aJ .i64 t fun g=>aa q fun c o=>dP c fun u=>aJ .i64 u fun h=>ag o<|ag l<|cc 298 [pI g] [] fun d i=>dP d fun v=>ao v fun r=>ag i<|some (.tup [.p r.e,pI h],[]))
def Te (n:Nat)(a:LN)(b:aA):=cT (fun cc=>Fu cc n a b) 229 [pS a,.p b.e] [] 0 n bY
def AV (n:Nat)(c:LN)(a:aA)(b:aA):R:=iL (cM c [61,61]) (cc 48 [.p a.e,.p b.e] [] fun j M=>dP j fun x3=>aE x3 fun h=>ag M<|cc 296 [pB h] [] fun w X=>dP w fun x7=>ao x7 fun u8=>ag X<|some (.tup [.p u8.e,pI 0],[])) (iL (cM c [33,61]) (cc 48 [.p a.e,.p b.e] [] fun E J=>dP E fun b7=>aE b7 fun d=>ag J<|cc 296 [pB (!d)] [] fun l K=>dP l fun b8=>ao b8 fun a8=>ag K<|some (.tup [.p a8.e,pI 0],[])) (iL (cM c [60]) (cc 299 [.p a.e,.p b.e] [] fun m L=>dP m fun b9=>aE b9 fun e=>ag L<|cc 296 [pB e] [] fun o N=>dP o fun c0=>ao c0 fun a9=>ag N<|some (.tup [.p a9.e,pI 0],[])) (iL (cM c [60,61]) (cc 299 [.p b.e,.p a.e] [] fun p O=>dP p fun c1=>aE c1 fun f=>ag O<|cc 296 [pB (!f)] [] fun q P=>dP q fun c3=>ao c3 fun b0=>ag P<|some (.tup [.p b0.e,pI 0],[])) (iL (cM c [62]) (cc 299 [.p b.e,.p a.e] [] fun r S=>dP r fun c4=>aE c4 fun g=>ag S<|cc 296 [pB g] [] fun s T=>dP s fun c5=>ao c5 fun b1=>ag T<|some (.tup [.p b1.e,pI 0],[])) (iL (cM c [62,61]) (cc 299 [.p a.e,.p b.e] [] fun t U=>dP t fun c6=>aE c6 fun i=>ag U<|cc 296 [pB (!i)] [] fun u V=>dP u fun c7=>ao c7 fun b2=>ag V<|some (.tup [.p b2.e,pI 0],[])) (iL (cM c [43]) (iL (az a.Kind 3) (iL (aK 64 (ab .i64 (↑a.S.length+ ↑b.S.length))) (some (.tup [.p (.agg [.int .i64 0,.int .i64 0,.str [],.slice 1 [],.slice 1 []]),pI 5],[])) (iL (Nat.ble (List.length a.S+List.length b.S) oU) (some (.tup [.p (.agg [.int .i64 3,.int .i64 0,.str (a.S++b.S),.slice 1 [],.slice 1 []]),pI 0],[])) (none))) (cc 297 [pS c,pI a.N,pI b.N] [] fun v W=>bQ v fun a2=>aa a2 fun x a3=>dP x fun c8=>aJ .i64 c8 fun F=>aa a3 fun y a4=>dP y fun c9=>aJ .i64 c9 fun G=>ag a4<|ag W<|cc 298 [pI F] [] fun z Z=>dP z fun d0=>ao d0 fun b3=>ag Z<|some (.tup [.p b3.e,pI G],[]))) (cc 297 [pS c,pI a.N,pI b.N] [] fun A a0=>bQ A fun a5=>aa a5 fun B a6=>dP B fun d2=>aJ .i64 d2 fun H=>aa a6 fun C a7=>dP C fun d4=>aJ .i64 d4 fun I=>ag a7<|ag a0<|cc 298 [pI H] [] fun D a1=>dP D fun d6=>ao d6 fun b5=>ag a1<|some (.tup [.p b5.e,pI I],[]))))))))
def Pm (n:Nat)(a:LN)(b:aA)(c:aA):=cT (fun cc=>AV cc n a b c) 231 [pS a,.p b.e,.p c.e] [] 0 n bY
def Hv:=bZ (fm 297).body 1 0
def Hw:=bZ (fm 297).body 1 1
def Hx:=bZ (fm 297).body 1 2
abbrev xg:=Int×Int
def pU (cc:af)(n:Nat)(c:Int×Int×Bool->R):xg->R:=fun(a,b)=>iL (az a 0) (c (a,b,true)) (c (a,b,az b 0))
def IM:Rd eU xg:= .tl<| .i 1<| .i 2<| .h .n
def JQ (J:JJ):=pU cc n (fun(a,b,c)=>J .norm (tI 1 a<|tI 2 b<|tB 43 c .nil) [])
def uZ:dr:=DG 26978965 IM (JQ cc n) c7
def Ic {cc call}(hc:bE cc call)(n):bn (uZ cc n) call n 0 (26978965,[1,2],Hv,false):=qr bY hc aO
abbrev xh:=Int×Int×Int
def pV (cc:af)(n:Nat)(b:Int×Bool->R):xh->R:=fun(d,c,a)=>iL (az c 0) (none) (iL (az (ab .i64 (Int.tdiv a c)) d) (iL (az d (-9223372036854775808)) (iL (!az c (-1)) (iL (az c (-9223372036854775808)) (b (a,!az d (-1))) (b (a,true))) (b (a,false))) (iL (az c (-9223372036854775808)) (b (a,!az d (-1))) (b (a,true)))) (b (a,false)))
def IN:Rd eU xh:= .tl<| .i 1<| .i 2<| .i 10<| .h .n
def JR (J:JJ):=pV cc n (fun(a,b)=>J .norm (tI 10 a<|tB 69 b .nil) [])
def vc:dr:=DG 107915881 IN (JR cc n) (uZ cc n)
def Ie {cc call}(hc:bE cc call)(n):bn (vc cc n) call n 0 (107915881,[1,2,10],Hw,false):=qr bY hc aO
abbrev xi:=Int×Int
def pW (cc:af)(n:Nat)(c:Int×Int×Bool->R):xi->R:=fun(a,b)=>iL (!az a (-9223372036854775808)) (c (a,b,true)) (c (a,b,!az b (-1)))
def IP:Rd eU xi:= .tl<| .i 1<| .i 2<| .h .n
def JS (J:JJ):=pW cc n (fun(a,b,c)=>J .norm (tI 1 a<|tI 2 b<|tB 80 c .nil) [])
def vd:dr:=DG 431663769 IP (JS cc n) (vc cc n)
def If {cc call}(hc:bE cc call)(n):bn (vd cc n) call n 0 (431663769,[1,2],Hx,false):=qr bY hc aO
def qM (c:LN)(b:Int)(a:Int):R:=iL (cM c [43]) (iL (aK b (ab .i64 (b+a))==aK 0 a) (some (.tup [pI (ab .i64 (b+a)),pI 0],[])) (some (.tup [pI 0,pI 18],[]))) (iL (cM c [45]) (iL (aK (ab .i64 (b - a)) b==aK 0 a) (some (.tup [pI (ab .i64 (b - a)),pI 0],[])) (some (.tup [pI 0,pI 18],[]))) (iL (cM c [42]) (pU cc n (fun(e,f,i)=>iL i (some (.tup [pI 0,pI 0],[])) (pV cc n (fun(l,g)=>iL g (some (.tup [pI l,pI 0],[])) (some (.tup [pI 0,pI 18],[]))) (e,f,ab .i64 (e*f)))) (b,a)) (iL (cM c [47]) (iL (az a 0) (some (.tup [pI 0,pI 19],[])) (pW cc n (fun(j,d,h)=>iL h (iL (az d 0) (none) (some (.tup [pI (ab .i64 (Int.tdiv j d)),pI 0],[]))) (some (.tup [pI 0,pI 18],[]))) (b,a))) (iL (cM c [37]) (iL (az a 0) (some (.tup [pI 0,pI 19],[])) (iL (az a 0) (none) (some (.tup [pI (Int.tmod b a),pI 0],[])))) (some (.tup [pI 0,pI 18],[]))))))
def Td (n:Nat)(a:LN)(b:Int)(c:Int):=jh (fun cc=>qM cc n a b c) 297 [pS a,pI b,pI c] [] 0 n bY (fun cc=>vd cc n) (fun hc=>bj (ja (ja (Ic hc n))) (bj (ja (Ie hc n)) (bj (If hc n) aO)))
def MG (n:Nat)(a:aA)(e:Int):R:=iL (az a.Kind e) (cc 87 [.p a.e] [] fun c d=>dP c fun f=>aE f fun b=>ag d<|some (pB b,[])) rF
def XP (n:Nat)(a:aA)(b:Int):=cT (fun cc=>MG cc n a b) 47 [.p a.e,pI b] [] 0 n bY
def Sn (cc:af)(n:Nat)(a:Int)(c:LD)(f:Int):R:=cL (bI c 0) fun h=>ao h fun b=>iL (aV 16 f) (some (.tup [.p (.agg [.int .i64 0,.str [],.int .i64 0,.int .i64 0]),pI 5],[])) (iL (cM b.S []) (some (.tup [.p (.agg [.int .i64 0,.str [],.int .i64 0,.int .i64 0]),pI 5],[])) (iL (aK 32 ↑b.S.length) (some (.tup [.p (.agg [.int .i64 0,.str [],.int .i64 0,.int .i64 0]),pI 5],[])) (iL (az a 1) (cL (bI c 1) fun i=>ao i fun g=>some (.tup [.p (.agg [.int .i64 a,.str b.S,.int .i64 g.N,.int .i64 0]),pI 0],[])) (iL (az a 2) (cL (bI c 1) fun j=>ao j fun d=>cL (bI c 2) fun l=>ao l fun e=>iL (aK d.N 1) (some (.tup [.p (.agg [.int .i64 0,.str [],.int .i64 0,.int .i64 0]),pI 5],[])) (iL (aK 1073741824 d.N) (some (.tup [.p (.agg [.int .i64 0,.str [],.int .i64 0,.int .i64 0]),pI 5],[])) (iL (aK e.N 1) (some (.tup [.p (.agg [.int .i64 0,.str [],.int .i64 0,.int .i64 0]),pI 5],[])) (iL (aK 1073741824 e.N) (some (.tup [.p (.agg [.int .i64 0,.str [],.int .i64 0,.int .i64 0]),pI 5],[])) (some (.tup [.p (.agg [.int .i64 a,.str b.S,.int .i64 d.N,.int .i64 e.N]),pI 0],[])))))) (some (.tup [.p (.agg [.int .i64 a,.str b.S,.int .i64 0,.int .i64 0]),pI 0],[]))))))
def ĸ (n:Nat)(a:Int)(b:LD)(c:Int):=cT (fun cc=>Sn cc n a b c) 237 [pI a,pL 5 b,pI c] [] 0 n bY
def Fy (n:Nat)(a:aA):R:=cc 76 [pL 1 a.I] [] fun b i=>cf 0 1 b fun f=>aa i fun o j=>bL o fun e=>ag j<|cc 77 [pL 1 a.L] [] fun c l=>cf 0 1 c fun g=>aa l fun m h=>bL m fun d=>ag h<|some (.agg [pI a.Kind,pI a.N,pS a.S,.arr 0 0 f 1,.arr 1 0 g 1],[.arr e,.arr d])
def Tg (n:Nat)(a:aA):=cT (fun cc=>Fy cc n a) 55 [.p a.e] [] 0 n bY
def DC:=bZ (fm 39).body 1 0
abbrev nl:=Nat×Int×Int×LD
def iT (n:Nat)(o:Nat×Int×Int×Bool×LD->R)(Y:nl->R):nl->R:=fun(d,b,a,c)=>iL (aK a b) (iL (aV 0 a) (iL (aK a ↑d) (cL (c[0+Int.toNat a]?) fun H=>ao H fun D=>cc 55 [.p D.e] [] fun e t=>nD e fun w=>aa w fun f x=>dP f fun I=>aJ .i64 I fun l=>aa x fun g y=>dP g fun J=>aJ .i64 J fun m=>aa y fun h z=>dP h fun K=>dG K fun C=>aa z fun i A=>cf 0 1 i fun r=>aa A fun j B=>cf 1 1 j fun s=>ag B<|aa t fun E u=>bL E fun p=>aa u fun F v=>bL F fun q=>ag v<|iL (aV 0 a) (iL (aK a ↑d) (cL (c[0+Int.toNat a]?) fun L=>ao L fun G=>Y (d,b,ab .i64 (a+1),List.set c (0+Int.toNat a) (Da.agg (splice (cells (aA.e G)) 0 (cells (Da.agg [Da.int .i64 l,Da.int .i64 m,Da.str C,Da.slice 1 (List.take r (List.drop 0 p)),Da.slice 1 (List.take s (List.drop 0 q))])))))) (none)) (none)) (none)) (none)) (o (d,b,a,aK a b,c))
def Ew:Rd eU nl:= .tl<| .t 3 (.Ar 0 5)<| .i 8<| .i 9<| .h (.c .Oa .n)
def Gg (J:JJ):=iT cc n (fun(a,b,c,d,e)=>J (.exit 0) (.cons 3 (.arr 0 0 a 5)<|tI 8 b<|tI 9 c<|tB 10 d .nil) [.arr e])
def sD:dr:=ga 1691 Ew (Gg cc n) c7
def D6 {cc call}(hc:bE cc call)(n):bn (sD cc n) call n 0 (1691,[3,8,9],DC,true):=cO vZ hc aO
def AY (h:LD):R:=cc 84 [pL 5 h] [] fun b f=>cf 0 5 b fun a=>aa f fun i g=>bL i fun d=>ag g<|itL (iT cc n (fun(e,l,m,j,c)=>some ((.arr 0 0 e 5),[.arr c]))) n (a,↑a,0,d)
def Pp (n:Nat)(a:LD):=jh (fun cc=>AY cc n a) 39 [pL 5 a] [] 0 n vZ (fun cc=>sD cc n) (fun hc=>bj (D6 hc n) aO)
def zU:=bZ (fm 39).body 1 0
abbrev mf:=Nat×Int×Int×LD×LD
def gB (n:Nat)(p:Nat×Int×Int×Bool×LD×LD->R)(Y:mf->R):mf->R:=fun(d,b,a,e,c)=>iL (aK a b) (iL (aV 0 a) (iL (aK a ↑d) (cL (c[0+Int.toNat a]?) fun I=>ao I fun E=>cc 55 [.p E.e] [] fun f u=>nD f fun x=>aa x fun g y=>dP g fun J=>aJ .i64 J fun m=>aa y fun h z=>dP h fun K=>aJ .i64 K fun o=>aa z fun i A=>dP i fun L=>dG L fun D=>aa A fun j B=>cf 0 1 j fun s=>aa B fun l C=>cf 1 1 l fun t=>ag C<|aa u fun F v=>bL F fun q=>aa v fun G w=>bL G fun r=>ag w<|iL (aV 0 a) (iL (aK a ↑d) (cL (c[0+Int.toNat a]?) fun M=>ao M fun H=>Y (d,b,ab .i64 (a+1),e,List.set c (0+Int.toNat a) (Da.agg (splice (cells (aA.e H)) 0 (cells (Da.agg [Da.int .i64 m,Da.int .i64 o,Da.str D,Da.slice 1 (List.take s (List.drop 0 q)),Da.slice 1 (List.take t (List.drop 0 r))])))))) (none)) (none)) (none)) (none)) (p (d,b,a,aK a b,e,c))
def Ao:Rd eU mf:= .tl<| .t 3 (.Ar 1 5)<| .i 8<| .i 9<| .h (.c .Oa<| .c .Oa .n)
def Cz (J:JJ):=gB cc n (fun(a,b,c,d,e,f)=>J (.exit 0) (.cons 3 (.arr 1 0 a 5)<|tI 8 b<|tI 9 c<|tB 10 d .nil) [.arr e,.arr f])
def pM:dr:=ga 1691 Ao (Cz cc n) c7
def Ad {cc call}(hc:bE cc call)(n):bn (pM cc n) call n 1 (1691,[3,8,9],zU,true):=cO vZ hc aO
def w7 (z:Nat)(l:LD):R:=cc 84 [.arr 0 0 z 5] [.arr l] fun b h=>cf 1 5 b fun a=>aa h fun m i=>bL m fun e=>aa i fun o j=>bL o fun f=>ag j<|itL (gB cc n (fun(g,q,r,p,c,d)=>some ((.arr 1 0 g 5),[.arr c,.arr d]))) n (a,↑a,0,e,f)
def Ki (n:Nat)(z:Nat)(l:LD):=jh (fun cc=>w7 cc n z l) 39 [.arr 0 0 z 5] [.arr l] 1 n vZ (fun cc=>pM cc n) (fun hc=>bj (Ad hc n) aO)
def rJ:=bZ (fm 11).body 1 0
def Dy:=bZ rJ 411 0
abbrev nk:=LD×Int×Int
def gm (cc:af)(n:Nat)(e:R)(f:LD×Int×Int×Bool->R)(Y:nk->R):nk->R:=fun(c,b,a)=>cL (bI c b) fun i=>ao i fun d=>iL (aK a ↑d.L.length) (cL (bI c b) fun j=>ao j fun h=>cL (bI h.L a) fun l=>dG l fun g=>iL (aK 100 ↑g.length) (e) (Y (c,b,ab .i64 (a+1)))) (f (c,b,a,aK a ↑d.L.length))
def Es:Rd eU nk:= .tl<| .l 0 5<| .i 3<| .i 4<| .h .n
def Gb (J:JJ):=gm cc n (J .ret (tB 2 false .nil) []) (fun(a,b,c,d)=>J (.exit 2) (tL 0 5 a<|tI 3 b<|tI 4 c<|tB 43 d .nil) [])
def sx:dr:=ga 1685995 Es (Gb cc n) c7
def D2 {cc call}(hc:bE cc call)(n):bn (sx cc n) call n 0 (1685995,[0,3,4],Dy,true):=cO q8 hc aO
abbrev nj:=LD×Int
def gj (c:R)(e:LD×Int×Bool->R)(Y:nj->R):nj->R:=fun(b,a)=>iL (aK a ↑b.length) (cL (bI b a) fun j=>ao j fun g=>iL (aK 100 ↑g.S.length) (c) (cL (bI b a) fun l=>ao l fun h=>iL (aK 40 ↑h.I.length) (c) (cL (bI b a) fun m=>ao m fun i=>iL (aK 40 ↑i.L.length) (c) (itL (gm cc n (c) (fun(f,d,p,o)=>Y (f,ab .i64 (d+1)))) n (b,a,0))))) (e (b,a,aK a ↑b.length))
def Ep:Rd eU nj:= .tl<| .l 0 5<| .i 3<| .h .n
def Ga (J:JJ):=gj cc n (J .ret (tB 2 false .nil) []) (fun(a,b,c)=>J (.exit 0) (tL 0 5 a<|tI 3 b<|tB 8 c .nil) [])
def sw:dr:=ga 411 Ep (Ga cc n) (sx cc n)
def D1 {cc call}(hc:bE cc call)(n):bn (sw cc n) call n 0 (411,[0,3],rJ,true):=cO q8 hc (bj (D2 hc n) aO)
def AR (b:LD):R:=itL (gj cc n rF (fun(a,d,c)=>some (pB (aV (↑a.length) 20),[]))) n (b,0)
def Pi (n:Nat)(a:LD):=jh (fun cc=>AR cc n a) 11 [pL 5 a] [] 0 n q8 (fun cc=>sw cc n) (fun hc=>bj (D1 hc n) aO)
def Ld:=bZ (fm 35).body 1 0
abbrev oC:=Int×aA
def lm (cc:af)(n:Nat)(c:aA->R)(d:oC->R)(Y:oC->R):oC->R:=fun(b,a)=>iL (aK b ↑a.L.length) (cL (bI a.L b) fun f=>dG f fun e=>iL (aK 100 ↑e.length) (c a) (Y (ab .i64 (b+1),a))) (d (b,a))
def L2:Rd eU oC:= .tl<| .o 1 0<| .i 3<| .h (.c (.Ob (.ci<| .ci<| .cs<| .cl 1<| .cl 1 .n)) .n)
def OY (J:JJ):=lm cc n (fun a=>J .ret (tB 2 false .nil) [.box [pI a.Kind,pI a.N,pS a.S,pL 1 a.I,pL 1 a.L]]) (fun(a,b)=>J (.exit 0) (tO 1 0<|tI 3 a<|tB 8 false .nil) [.box [pI b.Kind,pI b.N,pS b.S,pL 1 b.I,pL 1 b.L]])
def zl:dr:=ga 411 L2 (OY cc n) c7
def Lz {cc call}(hc:bE cc call)(n):bn (zl cc n) call n 0 (411,[1,3],Ld,true):=cO gE hc aO
def MD (b:aA):R:=itL (lm cc n (fun d=>rF) (fun(c,a)=>iL (aV (↑a.S.length) 100) (iL (aV (↑a.I.length) 40) (iL (aV (↑a.L.length) 40) rT rF) rF) rF)) n (0,b)
def XM (n:Nat)(a:aA):=jh (fun cc=>MD cc n a) 35 [.p a.e] [] 0 n gE (fun cc=>zl cc n) (fun hc=>bj (Lz hc n) aO)
def qo:=bZ (fm 10).body 1 0
def K7:=bZ qo 1691 0
def yv:=bZ qo 1691 1
def K8:=bZ yv 110861995 0
abbrev ow:=Int×Int×aq×ah
def hZ (n:Nat)(f:aq×ah->R)(i:ow->R)(Y:ow->R):ow->R:=fun(e,b,d,a)=>iL (aK b ↑a.Fields.length) (cL (bI a.Fields b) fun p=>bg p fun l=>iL (aK 100 ↑l.Name.length) (f (d,a)) (cL (bI a.Fields b) fun m=>bg m fun c=>cc 35 [.p (.agg [.int .i64 c.Init_Kind,.int .i64 c.Init_N,.str c.Init_S,.slice 1 c.Init_I,.slice 1 c.Init_L])] [] fun h j=>dP h fun o=>aE o fun g=>ag j<|iL g (Y (e,ab .i64 (b+1),d,a)) (f (d,a)))) (i (e,b,d,a))
def LU:Rd eU ow:= .rm (.o 1 0<| .i 3<| .o 4 1<| .i 5<| .h (.c (.Ob (.cl 3 .n))<| .c (.Ob (.cs<| .cl 7<| .cl 5 .n)) .n)) (fun(e,(f,((g,()),((h,(i,(j,()))),()))))=>(e,f,(aq.mk g),(ah.mk h i j))) (fun(b,c,d,a)=>(b,(c,((d.Types,()),((a.Name,(a.Fields,(a.Methods,()))),())))))
def OP (J:JJ):=hZ cc n (fun(b,a)=>J .ret (tB 2 false .nil) [.box [pL 3 b.Types],.box [pS a.Name,pL 7 a.Fields,pL 5 a.Methods]]) (fun(b,a,d,c)=>J (.exit 2) (tO 1 0<|tI 3 b<|tO 4 1<|tI 5 a<|tB 45 false .nil) [.box [pL 3 d.Types],.box [pS c.Name,pL 7 c.Fields,pL 5 c.Methods]])
def zc:dr:=ga 110861979 LU (OP cc n) c7
def Lr {cc call}(hc:bE cc call)(n):bn (zc cc n) call n 0 (110861979,[1,3,4,5],K7,true):=cO bS hc aO
abbrev oy:=Int×Int×Int×aq×ah×aj
def ib (n:Nat)(j:aq×ah×aj->R)(l:oy->R)(Y:oy->R):oy->R:=fun(f,g,c,d,e,a)=>iL (aK c ↑a.Code.length) (cL (bI a.Code c) fun o=>bd o fun b=>cc 35 [.p (.agg [.int .i64 b.Value_Kind,.int .i64 b.Value_N,.str b.Value_S,.slice 1 b.Value_I,.slice 1 b.Value_L])] [] fun i m=>dP i fun p=>aE p fun h=>ag m<|iL h (Y (f,g,ab .i64 (c+1),d,e,a)) (j (d,e,a))) (l (f,g,c,d,e,a))
def LW:Rd eU oy:= .rm (.o 1 0<| .i 3<| .o 4 1<| .i 6<| .o 7 2<| .i 8<| .h (.c (.Ob (.cl 3 .n))<| .c (.Ob (.cs<| .cl 7<| .cl 5 .n)) (.c (.Ob (.cs<| .cl 1<| .ci<| .cl 1<| .cl 8 .n)) .n))) (fun(g,(h,(l,((m,()),((n,(o,(p,()))),((q,(r,(s,(i,(j,()))))),()))))))=>(g,h,l,(aq.mk m),(ah.mk n o p),(aj.mk q r s i j))) (fun(c,d,e,f,b,a)=>(c,(d,(e,((f.Types,()),((b.Name,(b.Fields,(b.Methods,()))),((a.Name,(a.Params,(a.Result,(a.Locals,(a.Code,()))))),())))))))
def OS (J:JJ):=ib cc n (fun(d,b,a)=>J .ret (tB 2 false .nil) [.box [pL 3 d.Types],.box [pS b.Name,pL 7 b.Fields,pL 5 b.Methods],.box [pS a.Name,pL 1 a.Params,pI a.Result,pL 1 a.Locals,pL 8 a.Code]]) (fun(d,b,a,f,e,c)=>J (.exit 6) (tO 1 0<|tI 3 d<|tO 4 1<|tI 6 b<|tO 7 2<|tI 8 a<|tB 104 false .nil) [.box [pL 3 f.Types],.box [pS e.Name,pL 7 e.Fields,pL 5 e.Methods],.box [pS c.Name,pL 1 c.Params,pI c.Result,pL 1 c.Locals,pL 8 c.Code]])
def zf:dr:=ga 1816362936235 LW (OS cc n) (zc cc n)
def Lt {cc call}(hc:bE cc call)(n):bn (zf cc n) call n 0 (1816362936235,[1,3,4,6,7,8],K8,true):=cO bS hc aO
abbrev ox:=Int×Int×aq×ah
def gc (d:aq×ah×aj->R)(i:ox->R)(Y:ox->R):ox->R:=fun(f,e,c,b)=>iL (aK e ↑b.Methods.length) (cL (bI b.Methods e) fun q=>aR q fun a=>iL (aK 100 ↑a.Name.length) (d (c,b,a)) (iL (aK 20 ↑a.Params.length) (d (c,b,a)) (iL (aK 40 ↑a.Locals.length) (d (c,b,a)) (iL (aK 120 ↑a.Code.length) (d (c,b,a)) (itL (ib cc n (fun(j,l,m)=>d (j,l,m)) (fun(g,h,r,o,p,s)=>Y (g,ab .i64 (h+1),o,p))) n (f,e,0,c,b,a)))))) (i (f,e,c,b))
def LV:Rd eU ox:= .rm (.o 1 0<| .i 3<| .o 4 1<| .i 6<| .h (.c (.Ob (.cl 3 .n))<| .c (.Ob (.cs<| .cl 7<| .cl 5 .n)) .n)) (fun(e,(f,((g,()),((h,(i,(j,()))),()))))=>(e,f,(aq.mk g),(ah.mk h i j))) (fun(b,c,d,a)=>(b,(c,((d.Types,()),((a.Name,(a.Fields,(a.Methods,()))),())))))
def OQ (J:JJ):=gc cc n (fun(c,b,a)=>J .ret (tB 2 false .nil) [.box [pL 3 c.Types],.box [pS b.Name,pL 7 b.Fields,pL 5 b.Methods],.box [pS a.Name,pL 1 a.Params,pI a.Result,pL 1 a.Locals,pL 8 a.Code]]) (fun(c,b,a,d)=>J (.exit 4) (tO 1 0<|tI 3 c<|tO 4 1<|tI 6 b<|tB 70 false .nil) [.box [pL 3 a.Types],.box [pS d.Name,pL 7 d.Fields,pL 5 d.Methods]])
def ze:dr:=ga 110861995 LV (OQ cc n) (zf cc n)
def Ls {cc call}(hc:bE cc call)(n):bn (ze cc n) call n 0 (110861995,[1,3,4,6],yv,true):=cO bS hc (bj (Lt hc n) aO)
abbrev ou:=Int×aq
def fH (d:aq×ah->R)(g:aq×ah×aj->R)(h:ou->R)(Y:ou->R):ou->R:=fun(c,a)=>iL (aK c ↑a.Types.length) (cL (bI a.Types c) fun s=>aF s fun b=>iL (aK 100 ↑b.Name.length) (d (a,b)) (iL (aK 20 ↑b.Fields.length) (d (a,b)) (iL (aK 20 ↑b.Methods.length) (d (a,b)) (itL (hZ cc n (fun(i,j)=>d (i,j)) (fun(e,t,l,m)=>itL (gc cc n (fun(o,p,q)=>g (o,p,q)) (fun(f,u,r,v)=>Y (ab .i64 (f+1),r))) n (e,0,l,m))) n (c,0,a,b))))) (h (c,a))
def LT:Rd eU ou:= .rm (.o 1 0<| .i 3<| .h (.c (.Ob (.cl 3 .n)) .n)) (fun(c,((d,()),()))=>(c,(aq.mk d))) (fun(a,b)=>(a,((b.Types,()),())))
def OO (J:JJ):=fH cc n (fun(b,a)=>J .ret (tB 2 false .nil) [.box [pL 3 b.Types],.box [pS a.Name,pL 7 a.Fields,pL 5 a.Methods]]) (fun(b,a,c)=>J .ret (tB 2 false .nil) [.box [pL 3 b.Types],.box [pS a.Name,pL 7 a.Fields,pL 5 a.Methods],.box [pS c.Name,pL 1 c.Params,pI c.Result,pL 1 c.Locals,pL 8 c.Code]]) (fun(b,a)=>J (.exit 0) (tO 1 0<|tI 3 b<|tB 17 false .nil) [.box [pL 3 a.Types]])
def zb:dr:=ga 1691 LT (OO cc n) (ze cc n)
def Lq {cc call}(hc:bE cc call)(n):bn (zb cc n) call n 0 (1691,[1,3],qo,true):=cO bS hc (bj (zX (zX (Lr hc n))) (bj (Ls hc n) aO))
def Mu (a:aq):R:=iL (aK 20 ↑a.Types.length) rF (itL (fH cc n (fun(c,d)=>rF) (fun(e,f,g)=>rF) (fun(b,h)=>rT)) n (0,a))
def XD (n:Nat)(a:aq):=jh (fun cc=>Mu cc n a) 10 [.p a.e] [] 0 n bS (fun cc=>zb cc n) (fun hc=>bj (Lq hc n) aO)
def E3 (cc:af)(n:Nat)(l:LD)(i:Int):R:=cL (bI l i) fun b=>aF b fun a=>some (pS a.Name,[.box [pL 3 l]])
def SI (n:Nat)(l:LD)(i:Int):=cT (fun cc=>E3 cc n l i) 103 [pI i,.box 0 0] [.box [pL 3 l]] 1 n bS
def E4 (cc:af)(n:Nat)(x:ah)(i:Int):R:=cL (bI x.Fields i) fun b=>bg b fun a=>some (pS a.Name,[.box [pS x.Name,pL 7 x.Fields,pL 5 x.Methods]])
def SJ (n:Nat)(x:ah)(i:Int):=cT (fun cc=>E4 cc n x i) 179 [pI i,.box 0 0] [x.b] 1 n bS
def E5 (cc:af)(n:Nat)(x:ah)(i:Int):R:=cL (bI x.Methods i) fun b=>aR b fun a=>some (pS a.Name,[.box [pS x.Name,pL 7 x.Fields,pL 5 x.Methods]])
def SK (n:Nat)(x:ah)(i:Int):=cT (fun cc=>E5 cc n x i) 180 [pI i,.box 0 0] [x.b] 1 n bS
def Hl:=bZ (fm 102).body 1 0
abbrev lS:=Int×Int×aq×LD×LD
def jI (n:Nat)(g:aq×LD×LD->R)(m:lS->R)(Y:lS->R):lS->R:=fun(e,d,b,a,c)=>iL (aK d e) (cc 103 [pI d,.box 0 0] [.box [pL 3 b.Types]] fun l s=>dP l fun v=>dG v fun f=>cD [.box [pL 3 b.Types]] s<|cc 178 [pS f] [] fun j r=>dP j fun t=>aE t fun h=>ag r<|iL h (cL (cS TypeDesc.string (Da.str f) a 0) fun w=>qw w (cL (cS TypeDesc.string (Da.str f) a 0) fun x=>qw x (Y (e,ab .i64 (d+1),b,a++[Da.str f],c++[Da.bool true])) fun o=>Y (e,ab .i64 (d+1),b,a,List.set c o (Da.bool true))) fun p=>cL c[p]? fun u=>aE u fun i=>iL i (g (b,a,c)) (cL (cS TypeDesc.string (Da.str f) a 0) fun y=>qw y (Y (e,ab .i64 (d+1),b,a++[Da.str f],c++[Da.bool true])) fun q=>Y (e,ab .i64 (d+1),b,a,List.set c q (Da.bool true)))) (g (b,a,c))) (m (e,d,b,a,c))
def IC:Rd eU lS:= .rm (.v 1 (.F 103 (.co 0 .n))<| .v 5 (.Mp 1)<| .i 9<| .i 10<| .h (.c (.Ob (.cl 3 .n))<| .c .Om .n)) (fun(f,(g,((h,()),((i,j),()))))=>(f,g,(aq.mk h),i,j)) (fun(a,b,c,d,e)=>(a,(b,((c.Types,()),((d,e),())))))
def JF (J:JJ):=jI cc n (fun(a,b,c)=>J .ret (tB 4 false .nil) [.box [pL 3 a.Types],(.map b c)]) (fun(a,b,c,d,e)=>J (.exit 0) (.cons 1 (.fn 103 [(.box 0 0)])<| .cons 5 (.map 1)<|tI 9 a<|tI 10 b<|tB 11 false .nil) [.box [pL 3 c.Types],(.map d e)])
def uP:dr:=ga 1691 IC (JF cc n) c7
def H2 {cc call}(hc:bE cc call)(n):bn (uP cc n) call n 1 (1691,[1,5,9,10],Hl,true):=cO aH hc aO
def EY (l:LD)(z:Int):R:=itL (jI cc n (fun(a,e,f)=>some (pB false,[.box [pL 3 a.Types]])) (fun(c,d,b,g,h)=>some (pB true,[.box [pL 3 b.Types]]))) n (z,0,aq.mk l,[],[])
def SD (n:Nat)(l:LD)(z:Int):=jh (fun cc=>EY cc n l z) 102 [pI z,.fn 103 [.box 0 0]] [.box [pL 3 l]] 1 n aH (fun cc=>uP cc n) (fun hc=>bj (H2 hc n) aO)
def Hm:=bZ (fm 102).body 1 0
abbrev lT:=Int×Int×ah×LD×LD
def jJ (n:Nat)(g:ah×LD×LD->R)(m:lT->R)(Y:lT->R):lT->R:=fun(e,d,a,b,c)=>iL (aK d e) (cc 179 [pI d,.box 0 0] [.box [pS a.Name,pL 7 a.Fields,pL 5 a.Methods]] fun l s=>dP l fun v=>dG v fun f=>cD [.box [pS a.Name,pL 7 a.Fields,pL 5 a.Methods]] s<|cc 178 [pS f] [] fun j r=>dP j fun t=>aE t fun h=>ag r<|iL h (cL (cS TypeDesc.string (Da.str f) b 0) fun w=>qw w (cL (cS TypeDesc.string (Da.str f) b 0) fun x=>qw x (Y (e,ab .i64 (d+1),a,b++[Da.str f],c++[Da.bool true])) fun o=>Y (e,ab .i64 (d+1),a,b,List.set c o (Da.bool true))) fun p=>cL c[p]? fun u=>aE u fun i=>iL i (g (a,b,c)) (cL (cS TypeDesc.string (Da.str f) b 0) fun y=>qw y (Y (e,ab .i64 (d+1),a,b++[Da.str f],c++[Da.bool true])) fun q=>Y (e,ab .i64 (d+1),a,b,List.set c q (Da.bool true)))) (g (a,b,c))) (m (e,d,a,b,c))
def ID:Rd eU lT:= .rm (.v 1 (.F 179 (.co 0 .n))<| .v 5 (.Mp 1)<| .i 9<| .i 10<| .h (.c (.Ob (.cs<| .cl 7<| .cl 5 .n)) (.c .Om .n))) (fun(f,(g,((h,(i,(j,()))),((l,m),()))))=>(f,g,(ah.mk h i j),l,m)) (fun(b,c,a,d,e)=>(b,(c,((a.Name,(a.Fields,(a.Methods,()))),((d,e),())))))
def JG (J:JJ):=jJ cc n (fun(a,c,b)=>J .ret (tB 4 false .nil) [.box [pS a.Name,pL 7 a.Fields,pL 5 a.Methods],(.map c b)]) (fun(a,c,b,d,e)=>J (.exit 0) (.cons 1 (.fn 179 [(.box 0 0)])<| .cons 5 (.map 1)<|tI 9 a<|tI 10 c<|tB 11 false .nil) [.box [pS b.Name,pL 7 b.Fields,pL 5 b.Methods],(.map d e)])
def uQ:dr:=ga 1691 ID (JG cc n) c7
def H3 {cc call}(hc:bE cc call)(n):bn (uQ cc n) call n 1 (1691,[1,5,9,10],Hm,true):=cO aH hc aO
def EZ (x:ah)(z:Int):R:=itL (jJ cc n (fun(a,e,f)=>some (pB false,[.box [pS a.Name,pL 7 a.Fields,pL 5 a.Methods]])) (fun(c,d,b,g,h)=>some (pB true,[.box [pS b.Name,pL 7 b.Fields,pL 5 b.Methods]]))) n (z,0,x,[],[])
def SE (n:Nat)(x:ah)(z:Int):=jh (fun cc=>EZ cc n x z) 102 [pI z,.fn 179 [.box 0 0]] [x.b] 1 n aH (fun cc=>uQ cc n) (fun hc=>bj (H3 hc n) aO)
def Ho:=bZ (fm 102).body 1 0
abbrev lU:=Int×Int×ah×LD×LD
def jK (n:Nat)(g:ah×LD×LD->R)(m:lU->R)(Y:lU->R):lU->R:=fun(e,d,a,b,c)=>iL (aK d e) (cc 180 [pI d,.box 0 0] [.box [pS a.Name,pL 7 a.Fields,pL 5 a.Methods]] fun l s=>dP l fun v=>dG v fun f=>cD [.box [pS a.Name,pL 7 a.Fields,pL 5 a.Methods]] s<|cc 178 [pS f] [] fun j r=>dP j fun t=>aE t fun h=>ag r<|iL h (cL (cS TypeDesc.string (Da.str f) b 0) fun w=>qw w (cL (cS TypeDesc.string (Da.str f) b 0) fun x=>qw x (Y (e,ab .i64 (d+1),a,b++[Da.str f],c++[Da.bool true])) fun o=>Y (e,ab .i64 (d+1),a,b,List.set c o (Da.bool true))) fun p=>cL c[p]? fun u=>aE u fun i=>iL i (g (a,b,c)) (cL (cS TypeDesc.string (Da.str f) b 0) fun y=>qw y (Y (e,ab .i64 (d+1),a,b++[Da.str f],c++[Da.bool true])) fun q=>Y (e,ab .i64 (d+1),a,b,List.set c q (Da.bool true)))) (g (a,b,c))) (m (e,d,a,b,c))
def IE:Rd eU lU:= .rm (.v 1 (.F 180 (.co 0 .n))<| .v 5 (.Mp 1)<| .i 9<| .i 10<| .h (.c (.Ob (.cs<| .cl 7<| .cl 5 .n)) (.c .Om .n))) (fun(f,(g,((h,(i,(j,()))),((l,m),()))))=>(f,g,(ah.mk h i j),l,m)) (fun(b,c,a,d,e)=>(b,(c,((a.Name,(a.Fields,(a.Methods,()))),((d,e),())))))
def JH (J:JJ):=jK cc n (fun(a,c,b)=>J .ret (tB 4 false .nil) [.box [pS a.Name,pL 7 a.Fields,pL 5 a.Methods],(.map c b)]) (fun(a,c,b,d,e)=>J (.exit 0) (.cons 1 (.fn 180 [(.box 0 0)])<| .cons 5 (.map 1)<|tI 9 a<|tI 10 c<|tB 11 false .nil) [.box [pS b.Name,pL 7 b.Fields,pL 5 b.Methods],(.map d e)])
def uR:dr:=ga 1691 IE (JH cc n) c7
def H4 {cc call}(hc:bE cc call)(n):bn (uR cc n) call n 1 (1691,[1,5,9,10],Ho,true):=cO aH hc aO
def E0 (x:ah)(z:Int):R:=itL (jK cc n (fun(a,e,f)=>some (pB false,[.box [pS a.Name,pL 7 a.Fields,pL 5 a.Methods]])) (fun(c,d,b,g,h)=>some (pB true,[.box [pS b.Name,pL 7 b.Fields,pL 5 b.Methods]]))) n (z,0,x,[],[])
def SF (n:Nat)(x:ah)(z:Int):=jh (fun cc=>E0 cc n x z) 102 [pI z,.fn 180 [.box 0 0]] [x.b] 1 n aH (fun cc=>uR cc n) (fun hc=>bj (H4 hc n) aO)
def E8 (n:Nat)(a:cX):R:=cc 183 [pI a.Kind] [] fun d f=>dP d fun h=>aE h fun b=>ag f<|iL b (iL (!az a.Init_Kind a.Kind) rT (cc 87 [.p (.agg [.int .i64 a.Init_Kind,.int .i64 a.Init_N,.str a.Init_S,.slice 1 a.Init_I,.slice 1 a.Init_L])] [] fun e g=>dP e fun i=>aE i fun c=>ag g<|iL c rF rT)) rT
def SN (n:Nat)(a:cX):=cT (fun cc=>E8 cc n a) 182 [.p a.e] [] 0 n aH
def Fl (n:Nat)(q:LD):R:=cc 239 [pL 7 q,.p (.fn 182 [])] [] fun a c=>dP a fun d=>aJ .i64 d fun b=>cD [] c<|iL (aV 0 b) rT rF
def S5 (n:Nat)(q:LD):=cT (fun cc=>Fl cc n q) 181 [pL 7 q,.p (.fn 182 [])] [] 0 n aH
def Hs:=bZ (fm 239).body 1 0
abbrev lY:=LD×Int×Int
def jO (n:Nat)(g:Int->R)(h:lY->R)(Y:lY->R):lY->R:=fun(d,c,b)=>iL (aK b c) (cL (bI d b) fun j=>bg j fun a=>cc 182 [.p (.agg [.str a.Name,.int .i64 a.Kind,.int .i64 a.Init_Kind,.int .i64 a.Init_N,.str a.Init_S,.slice 1 a.Init_I,.slice 1 a.Init_L])] [] fun f i=>dP f fun l=>aE l fun e=>ag i<|iL e (g b) (Y (d,c,ab .i64 (b+1)))) (h (d,c,b))
def IJ:Rd eU lY:= .tl<| .l 0 7<| .v 1 (.P (.FP 182 .n))<| .i 7<| .i 8<| .h .n
def JN (J:JJ):=jO cc n (fun a=>J .ret (tI 4 a .nil) []) (fun(a,b,c)=>J (.exit 0) (tL 0 7 a<| .cons 1 (.p (.fn 182 []))<|tI 7 b<|tI 8 c<|tB 9 false .nil) [])
def uW:dr:=ga 411 IJ (JN cc n) c7
def H9 {cc call}(hc:bE cc call)(n):bn (uW cc n) call n 0 (411,[0,1,7,8],Hs,true):=cO aH hc aO
def Fq (q:LD):R:=itL (jO cc n (fun a=>some (pI a,[])) (fun(d,b,c)=>some (pI (-1),[]))) n (q,↑q.length,0)
def S9 (n:Nat)(q:LD):=jh (fun cc=>Fq cc n q) 239 [pL 7 q,.p (.fn 182 [])] [] 0 n aH (fun cc=>uW cc n) (fun hc=>bj (H9 hc n) aO)
end
end Go.Ab
