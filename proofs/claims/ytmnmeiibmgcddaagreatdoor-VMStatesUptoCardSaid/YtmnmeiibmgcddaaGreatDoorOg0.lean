import Derived.Test.YtmnmeiibmgcddaaGreatDoorDcA
import Derived.Test.YtmnmeiibmgcddaaGreatDoorAwZ
import Derived.KernelRfl
set_option linter.all false
namespace Go.Ab
open Go
set_option maxRecDepth 100000
noncomputable section
variable (cc:ae)(n:Nat)
def qr (n:Nat)(a:LN):R:=iL (!cg a []) (iL (aL (↑a.length) 32) (cc 197 [pS a] [] fun c f=>dP c fun h=>ba .i64 h fun e=>af f<|iL (az e ↑a.length) (cc 198 [pS a] [] fun d g=>dP d fun i=>aH i fun b=>af g<|iL b rF rT) rF) rF) rF
def JH (n:Nat)(a:LN):=df (fun cc=>qr cc n a) 178 [pS a] [] 0 n aS
def oz (cc:ae)(n:Nat)(a:LN):R:=iL (cg a [97,99,116,111,114]) rT (iL (cg a [115,116,97,116,101]) rT (iL (cg a [109,101,116,104,111,100]) rT (iL (cg a [108,101,116]) rT (iL (cg a [105,102]) rT (iL (cg a [101,108,115,101]) rT (iL (cg a [119,104,105,108,101]) rT (iL (cg a [114,101,116,117,114,110]) rT (iL (cg a [102,97,105,108]) rT (iL (cg a [99,97,108,108]) rT (iL (cg a [101,109,105,116]) rT (iL (cg a [114,101,109,105,110,100]) rT (iL (cg a [99,97,110,99,101,108]) rT (iL (cg a [115,101,108,102]) rT (iL (cg a [116,114,117,101]) rT (iL (cg a [102,97,108,115,101]) rT (iL (cg a [105,110,116]) rT (iL (cg a [98,111,111,108]) rT (iL (cg a [115,116,114,105,110,103]) rT (iL (cg a [105,110,116,115]) rT (iL (cg a [115,116,114,105,110,103,115]) rT rF))))))))))))))))))))
def yP (n:Nat)(a:LN):=df (fun cc=>oz cc n a) 198 [pS a] [] 0 n aS
def Hs (n:Nat)(a:LN):R:=iL (cg a []) (some (pI 0,[])) (cL (bif aL 0 0 then a[Int.toNat 0]? else none) fun f=>cc 255 [.p (.int .u8 (Int.ofNat f))] [] fun c g=>dP c fun i=>aH i fun b=>af g<|iL b (cc 195 [pS a,.p (.fn 256 [])] [] fun d h=>dP d fun j=>ba .i64 j fun e=>af h<|some (pI e,[])) (some (pI 0,[])))
def RE (n:Nat)(a:LN):=df (fun cc=>Hs cc n a) 197 [pS a] [] 0 n aS
def A7 (n:Nat)(a:Int):R:=cc 255 [.p (.int .u8 a)] [] fun d f=>dP d fun h=>aH h fun b=>af f<|iL b rT (cc 199 [.p (.int .u8 a)] [] fun e g=>dP e fun i=>aH i fun c=>af g<|iL c rT rF)
def Nc (n:Nat)(a:Int):=df (fun cc=>A7 cc n a) 256 [.p (.int .u8 a)] [] 0 n aS
def w9 (cc:ae)(n:Nat)(a:Int):R:=iL (aL 97 a) (iL (aL a 122) rT (iL (aL 65 a) (iL (aL a 90) rT (iL (az a 95) rT rF)) (iL (az a 95) rT rF))) (iL (aL 65 a) (iL (aL a 90) rT (iL (az a 95) rT rF)) (iL (az a 95) rT rF))
def JK (n:Nat)(a:Int):=df (fun cc=>w9 cc n a) 255 [.p (.int .u8 a)] [] 0 n aS
def A6 (cc:ae)(n:Nat)(a:Int):R:=iL (aL 48 a) (iL (aL a 57) rT rF) rF
def Nb (n:Nat)(a:Int):=df (fun cc=>A6 cc n a) 199 [.p (.int .u8 a)] [] 0 n aS
def KW:=cK (gz 195).body 1 0
abbrev tw:=LN×Int
def lJ (n:Nat)(c:(LN)×Int->R)(Y:tw->R):tw->R:=fun(b,a)=>iL (aG a ↑b.length) (cL (bif aL 0 a then b[Int.toNat a]? else none) fun f=>cc 256 [.p (.int .u8 (Int.ofNat f))] [] fun e g=>dP e fun h=>aH h fun d=>af g<|iL d (Y (b,ag .i64 (a+1))) (c (b,a))) (c (b,a))
def Lm:Rd f9 tw:= .tl<| .s 0<| .v 1 (.P (.FP 256 .n))<| .i 5<| .h .n
def MS (J:JJ):=lJ cc n (fun(a,b)=>J (.exit 0) (tS 0 a<| .cons 1 (.p (.fn 256 []))<|tI 5 b<|tB 16 false .nil) [])
def yr:dT:=jS 423 Lm (MS cc n) eD
def K8 {cc call}(hc:bO cc call)(n):bt (yr cc n) call n 0 (423,[0,1,5],KW,true):=eo aS hc aV
def MJ (s:LN):R:=itL (lJ cc n (fun(b,a)=>some (pI a,[]))) n (s,0)
def V4 (n:Nat)(s:LN):=Š (fun cc=>MJ cc n s) 195 [pS s,.p (.fn 256 [])] [] 0 n aS (fun cc=>yr cc n) (fun hc=>bC (K8 hc n) aV)
def C9:=cK (gz 87).body 1 0
def Db:=cK (gz 87).body 1 1
def Dc:=cK (gz 87).body 1 2
def Df:=cK (gz 87).body 1 3
def Dg:=cK (gz 87).body 1 4
def Dd:=cK (gz 87).body 1 5
def De:=cK (gz 87).body 1 6
abbrev tF:=aw
def kL (cc:ae)(n:Nat)(b:Bool×aw->R):tF->R:=fun a=>iL (aG a.Kind 0) (b (true,a)) (iL (aG 5 a.Kind) (b (true,a)) (b (false,a)))
def Eg:Rd f9 tF:= .rm (.o 1 0<| .h (.c (.Ob (.ci<| .ci<| .cs<| .cl 1<| .cl 1 .n)) .n)) (fun((b,(c,(d,(e,(f,()))))),())=>(aw.mk b c d e f)) (fun a=>((a.Kind,(a.N,(a.S,(a.I,(a.L,()))))),()))
def E9 (J:JJ):=kL cc n (fun(b,a)=>J .norm (tO 1 0<|tB 12 b .nil) [.box [pI a.Kind,pI a.N,pS a.S,pL 1 a.I,pL 1 a.L]])
def rX:dT:=zR 101 Eg (E9 cc n) eD
def DL {cc call}(hc:bO cc call)(n):bt (rX cc n) call n 0 (101,[1],C9,false):=n5 hR hc aV
abbrev tG:=aw
def kM (cc:ae)(n:Nat)(b:Bool×aw->R):tG->R:=fun a=>iL (!az a.N 0) (iL (!az a.Kind 1) (iL (!az a.Kind 2) (b (true,a)) (iL (!az a.N 1) (b (true,a)) (b (false,a)))) (b (false,a))) (b (false,a))
def Eh:Rd f9 tG:= .rm (.o 1 0<| .h (.c (.Ob (.ci<| .ci<| .cs<| .cl 1<| .cl 1 .n)) .n)) (fun((b,(c,(d,(e,(f,()))))),())=>(aw.mk b c d e f)) (fun a=>((a.Kind,(a.N,(a.S,(a.I,(a.L,()))))),()))
def Fa (J:JJ):=kM cc n (fun(b,a)=>J .norm (tO 1 0<|tB 13 b .nil) [.box [pI a.Kind,pI a.N,pS a.S,pL 1 a.I,pL 1 a.L]])
def rY:dT:=zR 1693 Eh (Fa cc n) (rX cc n)
def DM {cc call}(hc:bO cc call)(n):bt (rY cc n) call n 0 (1693,[1],Db,false):=n5 hR hc aV
abbrev tH:=aw
def kO (cc:ae)(n:Nat)(b:Bool×aw->R):tH->R:=fun a=>iL (!cg a.S []) (iL (!az a.Kind 3) (b (true,a)) (b (false,a))) (b (false,a))
def Ei:Rd f9 tH:= .rm (.o 1 0<| .h (.c (.Ob (.ci<| .ci<| .cs<| .cl 1<| .cl 1 .n)) .n)) (fun((b,(c,(d,(e,(f,()))))),())=>(aw.mk b c d e f)) (fun a=>((a.Kind,(a.N,(a.S,(a.I,(a.L,()))))),()))
def Fb (J:JJ):=kO cc n (fun(b,a)=>J .norm (tO 1 0<|tB 32 b .nil) [.box [pI a.Kind,pI a.N,pS a.S,pL 1 a.I,pL 1 a.L]])
def rZ:dT:=zR 108453 Ei (Fb cc n) (rY cc n)
def DN {cc call}(hc:bO cc call)(n):bt (rZ cc n) call n 0 (108453,[1],Dc,false):=n5 hR hc aV
abbrev tJ:=aw
def gq (cc:ae)(n:Nat)(b:Bool×aw->R):tJ->R:=fun a=>iL (aG 64 ↑a.S.length) (b (true,a)) (iL (aG 16 ↑a.I.length) (b (true,a)) (iL (aG 16 ↑a.L.length) (b (true,a)) (b (false,a))))
def Ej:Rd f9 tJ:= .rm (.o 1 0<| .h (.c (.Ob (.ci<| .ci<| .cs<| .cl 1<| .cl 1 .n)) .n)) (fun((b,(c,(d,(e,(f,()))))),())=>(aw.mk b c d e f)) (fun a=>((a.Kind,(a.N,(a.S,(a.I,(a.L,()))))),()))
def Fc (J:JJ):=gq cc n (fun(b,a)=>J .norm (tO 1 0<|tB 74 b .nil) [.box [pI a.Kind,pI a.N,pS a.S,pL 1 a.I,pL 1 a.L]])
def sa:dT:=zR 1701 Ej (Fc cc n) (rZ cc n)
def DO {cc call}(hc:bO cc call)(n):bt (sa cc n) call n 0 (1701,[1],Dd,false):=n5 hR hc aV
abbrev kF:=LD×Int×Int
def cZ (cc:ae)(n:Nat)(d:R)(e:kF->R)(Y:kF->R):kF->R:=fun(c,b,a)=>iL (aG a b) (cL (bU c a) fun g=>eR g fun f=>iL (aG 64 ↑f.length) (d) (Y (c,b,ag .i64 (a+1)))) (e (c,b,a))
def El:Rd f9 kF:= .tl<| .l 76 1<| .i 77<| .i 78<| .h .n
def Fd (J:JJ):=cZ cc n (J .ret (tB 2 false .nil) []) (fun(a,b,c)=>J (.exit 1) (tL 76 1 a<|tI 77 b<|tI 78 c<|tB 79 false .nil) [])
def sb:dT:=jS 27291 El (Fd cc n) (sa cc n)
def DP {cc call}(hc:bO cc call)(n):bt (sb cc n) call n 0 (27291,[76,77,78],De,true):=eo hR hc aV
abbrev tM:=aw
def kQ (cc:ae)(n:Nat)(b:Bool×aw->R):tM->R:=fun a=>iL (aG 0 ↑a.I.length) (iL (!az a.Kind 4) (b (true,a)) (b (false,a))) (b (false,a))
def Em:Rd f9 tM:= .rm (.o 1 0<| .h (.c (.Ob (.ci<| .ci<| .cs<| .cl 1<| .cl 1 .n)) .n)) (fun((b,(c,(d,(e,(f,()))))),())=>(aw.mk b c d e f)) (fun a=>((a.Kind,(a.N,(a.S,(a.I,(a.L,()))))),()))
def Ff (J:JJ):=kQ cc n (fun(b,a)=>J .norm (tO 1 0<|tB 32 b .nil) [.box [pI a.Kind,pI a.N,pS a.S,pL 1 a.I,pL 1 a.L]])
def sc:dT:=zR 1735273 Em (Ff cc n) (sb cc n)
def DQ {cc call}(hc:bO cc call)(n):bt (sc cc n) call n 0 (1735273,[1],Df,false):=n5 hR hc aV
abbrev tN:=aw
def kR (cc:ae)(n:Nat)(b:Bool×aw->R):tN->R:=fun a=>iL (aG 0 ↑a.L.length) (iL (!az a.Kind 5) (b (true,a)) (b (false,a))) (b (false,a))
def En:Rd f9 tN:= .rm (.o 1 0<| .h (.c (.Ob (.ci<| .ci<| .cs<| .cl 1<| .cl 1 .n)) .n)) (fun((b,(c,(d,(e,(f,()))))),())=>(aw.mk b c d e f)) (fun a=>((a.Kind,(a.N,(a.S,(a.I,(a.L,()))))),()))
def Fg (J:JJ):=kR cc n (fun(b,a)=>J .norm (tO 1 0<|tB 32 b .nil) [.box [pI a.Kind,pI a.N,pS a.S,pL 1 a.I,pL 1 a.L]])
def sd:dT:=zR 6941098 En (Fg cc n) (sc cc n)
def DR {cc call}(hc:bO cc call)(n):bt (sd cc n) call n 0 (6941098,[1],Dg,false):=n5 hR hc aV
def abJ (p:aw):R:=kL cc n (fun(i,q)=>iL i rF (kM cc n (fun(o,s)=>iL o rF (kO cc n (fun(b,g)=>iL b (iL b rF (gq cc n (fun(h,c)=>iL h rF (itL (cZ cc n rF (fun(z,t,u)=>rT)) n (c.L,↑c.L.length,0))) g)) (kQ cc n (fun(a,d)=>iL a (iL a rF (gq cc n (fun(j,e)=>iL j rF (itL (cZ cc n rF (fun(A,v,w)=>rT)) n (e.L,↑e.L.length,0))) d)) (kR cc n (fun(l,r)=>iL l rF (gq cc n (fun(m,f)=>iL m rF (itL (cZ cc n rF (fun(B,x,y)=>rT)) n (f.L,↑f.L.length,0))) r)) d)) g)) s)) q)) p
def NB (n:Nat)(a:aw):=Š (fun cc=>abJ cc n a) 87 [.p a.e] [] 0 n hR (fun cc=>sd cc n) (fun hc=>bC (gY (gY (Dn (gY (gY (gY (DL hc n))))))) (bC (gY (gY (Dn (gY (gY (DM hc n)))))) (bC (gY (gY (Dn (gY (DN hc n))))) (bC (gY (DQ hc n)) (bC (DR hc n) (bC (gY (gY (Dn (DO hc n)))) (bC (gY (gY (DP hc n))) aV)))))))
def Hz (n:Nat)(a:aw)(b:aw):R:=iL (az a.Kind b.Kind) (iL (az a.N b.N) (iL (cg a.S b.S) (cc 88 [pL 1 a.I,pL 1 b.I] [] fun e g=>dP e fun i=>aH i fun c=>af g<|iL c (cc 89 [pL 1 a.L,pL 1 b.L] [] fun f h=>dP f fun j=>aH j fun d=>af h<|iL d rT rF) rF) rF) rF) rF
def RL (n:Nat)(a:aw)(b:aw):=df (fun cc=>Hz cc n a b) 48 [.p a.e,.p b.e] [] 0 n aS
def Dh:=cK (gz 88).body 1 0
abbrev kG:=LD×LD×Int×Int
def iO (cc:ae)(n:Nat)(g:R)(h:kG->R)(Y:kG->R):kG->R:=fun(c,d,b,a)=>iL (aG a b) (cL (bU c a) fun i=>ba .i64 i fun e=>cL (bU d a) fun j=>ba .i64 j fun f=>iL (!az e f) (g) (Y (c,d,b,ag .i64 (a+1)))) (h (c,d,b,a))
def Eo:Rd f9 kG:= .tl<| .l 0 1<| .l 1 1<| .i 12<| .i 13<| .h .n
def Fh (J:JJ):=iO cc n (J .ret (tB 4 false .nil) []) (fun(a,b,c,d)=>J (.exit 0) (tL 0 1 a<|tL 1 1 b<|tI 12 c<|tI 13 d<|tB 14 false .nil) [])
def se:dT:=jS 1691 Eo (Fh cc n) eD
def DS {cc call}(hc:bO cc call)(n):bt (se cc n) call n 0 (1691,[0,1,12,13],Dh,true):=eo aS hc aV
def Bw (a:LD)(b:LD):R:=iL (!az ↑a.length ↑b.length) rF (itL (iO cc n rF (fun(f,e,c,d)=>rT)) n (a,b,↑a.length,0))
def NC (n:Nat)(a:LD)(b:LD):=Š (fun cc=>Bw cc n a b) 88 [pL 1 a,pL 1 b] [] 0 n aS (fun cc=>se cc n) (fun hc=>bC (DS hc n) aV)
def Di:=cK (gz 89).body 1 0
abbrev kH:=LD×LD×Int×Int
def iP (cc:ae)(n:Nat)(e:R)(f:kH->R)(Y:kH->R):kH->R:=fun(c,d,b,a)=>iL (aG a b) (cL (bU c a) fun i=>eR i fun g=>cL (bU d a) fun j=>eR j fun h=>iL (!cg g h) (e) (Y (c,d,b,ag .i64 (a+1)))) (f (c,d,b,a))
def Ep:Rd f9 kH:= .tl<| .l 0 1<| .l 1 1<| .i 12<| .i 13<| .h .n
def Fi (J:JJ):=iP cc n (J .ret (tB 4 false .nil) []) (fun(a,b,c,d)=>J (.exit 0) (tL 0 1 a<|tL 1 1 b<|tI 12 c<|tI 13 d<|tB 14 false .nil) [])
def sf:dT:=jS 1691 Ep (Fi cc n) eD
def DU {cc call}(hc:bO cc call)(n):bt (sf cc n) call n 0 (1691,[0,1,12,13],Di,true):=eo hR hc aV
def By (a:LD)(b:LD):R:=iL (!az ↑a.length ↑b.length) rF (itL (iP cc n rF (fun(f,e,c,d)=>rT)) n (a,b,↑a.length,0))
def ND (n:Nat)(a:LD)(b:LD):=Š (fun cc=>By cc n a b) 89 [pL 1 a,pL 1 b] [] 0 n hR (fun cc=>sf cc n) (fun hc=>bC (DU hc n) aV)
def wW (cc:ae)(n:Nat)(a:Int):R:=iL (aL 1 a) (iL (aL a 5) rT rF) rF
def JA (n:Nat)(a:Int):=df (fun cc=>wW cc n a) 183 [pI a] [] 0 n aS
def A3 (cc:ae)(n:Nat)(a:Int):R:=iL (aL 2 a) (iL (aL a 5) rT (iL (az a 26) rT (iL (az a 27) rT (iL (aL 28 a) (iL (aL a 30) rT rF) rF)))) (iL (az a 26) rT (iL (az a 27) rT (iL (aL 28 a) (iL (aL a 30) rT rF) rF)))
def M8 (n:Nat)(a:Int):=df (fun cc=>A3 cc n a) 243 [pI a] [] 0 n aS
def w7 (cc:ae)(n:Nat)(a:Int)(b:Int):R:=iL (aL 0 a) (iL (aG a b) rT rF) rF
def JG (n:Nat)(a:Int)(b:Int):=df (fun cc=>w7 cc n a b) 244 [pI a,pI b] [] 0 n aS
def zG:=cK (gz 187).body 1 0
def zH:=cK (gz 187).body 1 1
def zI:=cK (gz 187).body 1 2
def zJ:=cK (gz 187).body 1 3
abbrev rn:=av×ah×aj×aq
def jp (n:Nat)(b:Bool×av×ah×aj×aq->R):rn->R:=fun(c,d,e,a)=>iL (aG a.Op 1) (b (true,c,d,e,a)) (iL (aG 36 a.Op) (b (true,c,d,e,a)) (cc 243 [pI a.Op] [] fun g h=>dP g fun i=>aH i fun f=>af h<|iL f (iL (!az a.Op 30) (iL (!az a.B 0) (b (true,c,d,e,a)) (b (false,c,d,e,a))) (b (false,c,d,e,a))) (iL (!az a.A 0) (b (true,c,d,e,a)) (iL (!az a.Op 30) (iL (!az a.B 0) (b (true,c,d,e,a)) (b (false,c,d,e,a))) (b (false,c,d,e,a))))))
def An:Rd f9 rn:= .rm (.o 4 0<| .o 5 1<| .o 6 2<| .o 7 3<| .h (.c (.Ob (.cl 3 .n))<| .c (.Ob (.cs<| .cl 7<| .cl 5 .n)) (.c (.Ob (.cs<| .cl 1<| .ci<| .cl 1<| .cl 8 .n)) (.c (.Ob (.ci<| .ci<| .ci<| .ci<| .ci<| .cs<| .cl 1<| .cl 1 .n)) .n)))) (fun((e,()),((f,(o,(p,()))),((q,(r,(s,(t,(u,()))))),((v,(g,(h,(i,(j,(l,(m,(n,())))))))),()))))=>((av.mk e),(ah.mk f o p),(aj.mk q r s t u),(aq.mk v g h i j l m n))) (fun(d,c,b,a)=>((d.Types,()),((c.Name,(c.Fields,(c.Methods,()))),((b.Name,(b.Params,(b.Result,(b.Locals,(b.Code,()))))),((a.Op,(a.A,(a.B,(a.Value_Kind,(a.Value_N,(a.Value_S,(a.Value_I,(a.Value_L,())))))))),())))))
def BL (J:JJ):=jp cc n (fun(d,e,c,b,a)=>J .norm (tO 4 0<|tO 5 1<|tO 6 2<|tO 7 3<|tB 38 d .nil) [.box [pL 3 e.Types],.box [pS c.Name,pL 7 c.Fields,pL 5 c.Methods],.box [pS b.Name,pL 1 b.Params,pI b.Result,pL 1 b.Locals,pL 8 b.Code],.box [pI a.Op,pI a.A,pI a.B,pI a.Value_Kind,pI a.Value_N,pS a.Value_S,pL 1 a.Value_I,pL 1 a.Value_L]])
def p9:dT:=zR 101 An (BL cc n) eD
def z6 {cc call}(hc:bO cc call)(n):bt (p9 cc n) call n 0 (101,[4,5,6,7],zG,false):=n5 cP hc aV
abbrev rq:=av×ah×aj×aq
def jq (n:Nat)(b:Bool×av×ah×aj×aq->R):rq->R:=fun(c,d,e,a)=>iL (!az a.Op 1) (cc 48 [.p (.agg [.int .i64 a.Value_Kind,.int .i64 a.Value_N,.str a.Value_S,.slice 1 a.Value_I,.slice 1 a.Value_L]),.p (.agg [.int .i64 0,.int .i64 0,.str [],.slice 1 [],.slice 1 []])] [] fun g h=>dP g fun i=>aH i fun f=>af h<|iL f (b (false,c,d,e,a)) (b (true,c,d,e,a))) (b (false,c,d,e,a))
def Ao:Rd f9 rq:= .rm (.o 4 0<| .o 5 1<| .o 6 2<| .o 7 3<| .h (.c (.Ob (.cl 3 .n))<| .c (.Ob (.cs<| .cl 7<| .cl 5 .n)) (.c (.Ob (.cs<| .cl 1<| .ci<| .cl 1<| .cl 8 .n)) (.c (.Ob (.ci<| .ci<| .ci<| .ci<| .ci<| .cs<| .cl 1<| .cl 1 .n)) .n)))) (fun((e,()),((f,(o,(p,()))),((q,(r,(s,(t,(u,()))))),((v,(g,(h,(i,(j,(l,(m,(n,())))))))),()))))=>((av.mk e),(ah.mk f o p),(aj.mk q r s t u),(aq.mk v g h i j l m n))) (fun(d,c,b,a)=>((d.Types,()),((c.Name,(c.Fields,(c.Methods,()))),((b.Name,(b.Params,(b.Result,(b.Locals,(b.Code,()))))),((a.Op,(a.A,(a.B,(a.Value_Kind,(a.Value_N,(a.Value_S,(a.Value_I,(a.Value_L,())))))))),())))))
def BM (J:JJ):=jq cc n (fun(d,e,c,b,a)=>J .norm (tO 4 0<|tO 5 1<|tO 6 2<|tO 7 3<|tB 48 d .nil) [.box [pL 3 e.Types],.box [pS c.Name,pL 7 c.Fields,pL 5 c.Methods],.box [pS b.Name,pL 1 b.Params,pI b.Result,pL 1 b.Locals,pL 8 b.Code],.box [pI a.Op,pI a.A,pI a.B,pI a.Value_Kind,pI a.Value_N,pS a.Value_S,pL 1 a.Value_I,pL 1 a.Value_L]])
def qa:dT:=zR 421 Ao (BM cc n) (p9 cc n)
def z7 {cc call}(hc:bO cc call)(n):bt (qa cc n) call n 0 (421,[4,5,6,7],zH,false):=n5 cP hc aV
abbrev rr:=aq
def jr (n:Nat)(b:Bool×aq->R):rr->R:=fun a=>cc 87 [.p (.agg [.int .i64 a.Value_Kind,.int .i64 a.Value_N,.str a.Value_S,.slice 1 a.Value_I,.slice 1 a.Value_L])] [] fun d e=>dP d fun f=>aH f fun c=>af e<|iL c (iL (!az a.Value_Kind 0) (b (true,a)) (b (false,a))) (b (false,a))
def Ap:Rd f9 rr:= .rm (.o 7 0<| .h (.c (.Ob (.ci<| .ci<| .ci<| .ci<| .ci<| .cs<| .cl 1<| .cl 1 .n)) .n)) (fun((b,(c,(d,(e,(f,(g,(h,(i,())))))))),())=>(aq.mk b c d e f g h i)) (fun a=>((a.Op,(a.A,(a.B,(a.Value_Kind,(a.Value_N,(a.Value_S,(a.Value_I,(a.Value_L,())))))))),()))
def BN (J:JJ):=jr cc n (fun(b,a)=>J .norm (tB 8 b .nil) [.box [pI a.Op,pI a.A,pI a.B,pI a.Value_Kind,pI a.Value_N,pS a.Value_S,pL 1 a.Value_I,pL 1 a.Value_L]])
def qb:dT:=zR 1746661 Ap (BN cc n) (qa cc n)
def z8 {cc call}(hc:bO cc call)(n):bt (qb cc n) call n 0 (1746661,[7],zI,false):=n5 cP hc aV
abbrev ru:=av×aq
def jt (n:Nat)(c:Bool×av×aq->R):ru->R:=fun(b,a)=>cc 244 [pI a.A,pI (↑b.Types.length)] [] fun f h=>dP f fun l=>aH l fun d=>af h<|iL d (cL (bU b.Types a.A) fun m=>aF m fun j=>cc 244 [pI a.B,pI (↑j.Methods.length)] [] fun g i=>dP g fun o=>aH o fun e=>af i<|iL e (c (true,b,a)) (c (false,b,a))) (c (false,b,a))
def Aq:Rd f9 ru:= .rm (.o 4 0<| .o 7 1<| .v 9 (.P (.FP 244 .n))<| .h (.c (.Ob (.cl 3 .n))<| .c (.Ob (.ci<| .ci<| .ci<| .ci<| .ci<| .cs<| .cl 1<| .cl 1 .n)) .n)) (fun((c,()),((d,(e,(f,(g,(h,(i,(j,(l,())))))))),()))=>((av.mk c),(aq.mk d e f g h i j l))) (fun(b,a)=>((b.Types,()),((a.Op,(a.A,(a.B,(a.Value_Kind,(a.Value_N,(a.Value_S,(a.Value_I,(a.Value_L,())))))))),())))
def BO (J:JJ):=jt cc n (fun(b,c,a)=>J .norm (tB 8 b .nil) [.box [pL 3 c.Types],.box [pI a.Op,pI a.A,pI a.B,pI a.Value_Kind,pI a.Value_N,pS a.Value_S,pL 1 a.Value_I,pL 1 a.Value_L]])
def qc:dT:=zR 1831512746661 Aq (BO cc n) (qb cc n)
def Aa {cc call}(hc:bO cc call)(n):bt (qc cc n) call n 0 (1831512746661,[4,7,9],zJ,false):=n5 cP hc aV
def w6 (H:av)(I:ah)(J:aj)(K:aq):R:=jp cc n (fun(q,L,M,N,O)=>iL q rF (jq cc n (fun(d,P,c,b,a)=>iL d rF (iL (az a.Op 1) (jr cc n (fun(e,a1)=>some (pB e,[])) a) (iL (az a.Op 2) (cc 244 [pI a.A,pI (↑b.Locals.length)] [] fun r z=>dP r fun S=>aH S fun f=>af z<|iL f rT rF) (iL (az a.Op 3) (cc 244 [pI a.A,pI (↑b.Locals.length)] [] fun s A=>dP s fun T=>aH T fun g=>af A<|iL g rT rF) (iL (az a.Op 4) (cc 244 [pI a.A,pI (↑c.Fields.length)] [] fun t B=>dP t fun U=>aH U fun h=>af B<|iL h rT rF) (iL (az a.Op 5) (cc 244 [pI a.A,pI (↑c.Fields.length)] [] fun u C=>dP u fun V=>aH V fun i=>af C<|iL i rT rF) (iL (az a.Op 26) (cc 244 [pI a.A,pI 17] [] fun v D=>dP v fun W=>aH W fun j=>af D<|iL j rT rF) (iL (az a.Op 27) (cc 244 [pI a.A,pI 17] [] fun w E=>dP w fun X=>aH X fun l=>af E<|iL l rT rF) (iL (az a.Op 28) (cc 244 [pI a.A,pI (↑b.Code.length)] [] fun x F=>dP x fun Z=>aH Z fun m=>af F<|iL m rT rF) (iL (az a.Op 29) (cc 244 [pI a.A,pI (↑b.Code.length)] [] fun y G=>dP y fun a0=>aH a0 fun o=>af G<|iL o rT rF) (iL (az a.Op 30) (jt cc n (fun(p,a2,a3)=>some (pB p,[])) (P,a)) rT))))))))))) (L,M,N,O))) (H,I,J,K)
def JF (n:Nat)(a:av)(b:ah)(c:aj)(d:aq):=Š (fun cc=>w6 cc n a b c d) 187 [.p a.e,.p b.e,.p c.e,.p d.e] [] 0 n cP (fun cc=>qc cc n) (fun hc=>bC (gY (gY (gY (z6 hc n)))) (bC (gY (gY (z7 hc n))) (bC (gY (z8 hc n)) (bC (Aa hc n) aV))))
def A4 (n:Nat)(l:LD)(t:ah)(m:aj)(x:aq):R:=cc 187 [.p (.agg [.slice 3 l]),.p (.agg [.str t.Name,.slice 7 t.Fields,.slice 5 t.Methods]),.p (.agg [.str m.Name,.slice 1 m.Params,.int .i64 m.Result,.slice 1 m.Locals,.slice 8 m.Code]),.p x.e] [] fun b c=>dP b fun d=>aH d fun a=>af c<|iL a (some (pB false,[.box [pL 3 l],.box [pS t.Name,pL 7 t.Fields,pL 5 t.Methods],.box [pS m.Name,pL 1 m.Params,pI m.Result,pL 1 m.Locals,pL 8 m.Code]])) (some (pB true,[.box [pL 3 l],.box [pS t.Name,pL 7 t.Fields,pL 5 t.Methods],.box [pS m.Name,pL 1 m.Params,pI m.Result,pL 1 m.Locals,pL 8 m.Code]]))
def M9 (n:Nat)(l:LD)(t:ah)(m:aj)(x:aq):=df (fun cc=>A4 cc n l t m x) 186 [.p x.e,.box 0 0,.box 1 0,.box 2 0] [.box [pL 3 l],t.b,m.b] 3 n aS
def tj (n:Nat)(d:LD):R:=cc 240 [pL 1 d,.p (.fn 241 [])] [] fun b c=>dP b fun e=>aH e fun a=>cf [] c<|iL a rF rT
def Fo (n:Nat)(a:LD):=df (fun cc=>tj cc n a) 184 [pL 1 a] [] 0 n aS
def wX (n:Nat)(d:Int):R:=cc 183 [pI d] [] fun b c=>dP b fun e=>aH e fun a=>af c<|iL a rF rT
def JB (n:Nat)(a:Int):=df (fun cc=>wX cc n a) 241 [pI a] [] 0 n aS
def Ba (n:Nat)(l:LD):R:=cc 302 [pL 1 l,.p (.fn 241 [])] [] fun a c=>dP a fun d=>ba .i64 d fun b=>cf [] c<|iL (aL 0 b) rT rF
def Ng (n:Nat)(l:LD):=df (fun cc=>Ba cc n l) 240 [pL 1 l,.p (.fn 241 [])] [] 0 n aS
def Gl:=cK (gz 302).body 1 0
abbrev mR:=LD×Int×Int
def jV (n:Nat)(g:Int->R)(h:mR->R)(Y:mR->R):mR->R:=fun(c,b,a)=>iL (aG a b) (cL (bU c a) fun j=>ba .i64 j fun f=>cc 241 [pI f] [] fun e i=>dP e fun l=>aH l fun d=>af i<|iL d (g a) (Y (c,b,ag .i64 (a+1)))) (h (c,b,a))
def GX:Rd f9 mR:= .tl<| .l 0 1<| .v 1 (.P (.FP 241 .n))<| .i 7<| .i 8<| .h .n
def Jv (J:JJ):=jV cc n (fun a=>J .ret (tI 4 a .nil) []) (fun(a,b,c)=>J (.exit 0) (tL 0 1 a<| .cons 1 (.p (.fn 241 []))<|tI 7 b<|tI 8 c<|tB 9 false .nil) [])
def vJ:dT:=jS 411 GX (Jv cc n) eD
def GB {cc call}(hc:bO cc call)(n):bt (vJ cc n) call n 0 (411,[0,1,7,8],Gl,true):=eo aS hc aV
def Ht (l:LD):R:=itL (jV cc n (fun a=>some (pI a,[])) (fun(d,b,c)=>some (pI (-1),[]))) n (l,↑l.length,0)
def RF (n:Nat)(l:LD):=Š (fun cc=>Ht cc n l) 302 [pL 1 l,.p (.fn 241 [])] [] 0 n aS (fun cc=>vJ cc n) (fun hc=>bC (GB hc n) aV)
def KY:=cK (gz 110).body 1 0
abbrev oB:=LD×LD×Int×Int
def lL (cc:ae)(n:Nat)(g:R)(h:oB->R)(Y:oB->R):oB->R:=fun(c,d,b,a)=>iL (aG a b) (cL (bU c a) fun i=>ba .i64 i fun e=>cL (bU d a) fun j=>ba .i64 j fun f=>iL (!az e f) (g) (Y (c,d,b,ag .i64 (a+1)))) (h (c,d,b,a))
def Lo:Rd f9 oB:= .tl<| .l 0 1<| .l 1 1<| .i 12<| .i 13<| .h .n
def MU (J:JJ):=lL cc n (J .ret (tB 4 false .nil) []) (fun(a,b,c,d)=>J (.exit 0) (tL 0 1 a<|tL 1 1 b<|tI 12 c<|tI 13 d<|tB 14 false .nil) [])
def yv:dT:=jS 1691 Lo (MU cc n) eD
def La {cc call}(hc:bO cc call)(n):bt (yv cc n) call n 0 (1691,[0,1,12,13],KY,true):=eo aS hc aV
def MM (a:LD)(b:LD):R:=iL (!az ↑a.length ↑b.length) rF (itL (lL cc n rF (fun(f,e,c,d)=>rT)) n (a,b,↑a.length,0))
def V7 (n:Nat)(a:LD)(b:LD):=Š (fun cc=>MM cc n a b) 110 [pL 1 a,pL 1 b] [] 0 n aS (fun cc=>yv cc n) (fun hc=>bC (La hc n) aV)
def Bb (n:Nat)(l:LD)(t:ah)(m:aj)(q:LD):R:=cc 242 [pL 8 q,.fn 186 [.box 0 0,.box 1 0,.box 2 0]] [.box [pL 3 l],.box [pS t.Name,pL 7 t.Fields,pL 5 t.Methods],.box [pS m.Name,pL 1 m.Params,pI m.Result,pL 1 m.Locals,pL 8 m.Code]] fun a c=>dP a fun d=>ba .i64 d fun b=>cf [.box [pL 3 l],.box [pS t.Name,pL 7 t.Fields,pL 5 t.Methods],.box [pS m.Name,pL 1 m.Params,pI m.Result,pL 1 m.Locals,pL 8 m.Code]] c<|iL (aL 0 b) (some (pB true,[.box [pL 3 l],.box [pS t.Name,pL 7 t.Fields,pL 5 t.Methods],.box [pS m.Name,pL 1 m.Params,pI m.Result,pL 1 m.Locals,pL 8 m.Code]])) (some (pB false,[.box [pL 3 l],.box [pS t.Name,pL 7 t.Fields,pL 5 t.Methods],.box [pS m.Name,pL 1 m.Params,pI m.Result,pL 1 m.Locals,pL 8 m.Code]]))
def Nh (n:Nat)(l:LD)(t:ah)(m:aj)(q:LD):=df (fun cc=>Bb cc n l t m q) 185 [pL 8 q,.fn 186 [.box 0 0,.box 1 0,.box 2 0]] [.box [pL 3 l],t.b,m.b] 3 n aS
def C4:=cK (gz 242).body 1 0
abbrev kz:=LD×Int×Int×av×ah×aj
def iM (n:Nat)(i:Int×av×ah×aj->R)(j:kz->R)(Y:kz->R):kz->R:=fun(f,e,c,d,b,a)=>iL (aG c e) (cL (bU f c) fun p=>bu p fun m=>cc 186 [.p m.e,.box 0 0,.box 1 0,.box 2 0] [.box [pL 3 d.Types],.box [pS b.Name,pL 7 b.Fields,pL 5 b.Methods],.box [pS a.Name,pL 1 a.Params,pI a.Result,pL 1 a.Locals,pL 8 a.Code]] fun h l=>dP h fun o=>aH o fun g=>cf [.box [pL 3 d.Types],.box [pS b.Name,pL 7 b.Fields,pL 5 b.Methods],.box [pS a.Name,pL 1 a.Params,pI a.Result,pL 1 a.Locals,pL 8 a.Code]] l<|iL g (i (c,d,b,a)) (Y (f,e,ag .i64 (c+1),d,b,a))) (j (f,e,c,d,b,a))
def Ea:Rd f9 kz:= .rm (.l 0 8<| .v 1 (.F 186 (.co 0<| .co 1<| .co 2 .n))<| .i 7<| .i 8<| .h (.c (.Ob (.cl 3 .n))<| .c (.Ob (.cs<| .cl 7<| .cl 5 .n)) (.c (.Ob (.cs<| .cl 1<| .ci<| .cl 1<| .cl 8 .n)) .n))) (fun(g,(h,(l,((m,()),((n,(o,(p,()))),((q,(r,(s,(i,(j,()))))),()))))))=>(g,h,l,(av.mk m),(ah.mk n o p),(aj.mk q r s i j))) (fun(c,d,e,f,b,a)=>(c,(d,(e,((f.Types,()),((b.Name,(b.Fields,(b.Methods,()))),((a.Name,(a.Params,(a.Result,(a.Locals,(a.Code,()))))),())))))))
def E4 (J:JJ):=iM cc n (fun(d,e,b,a)=>J .ret (tI 4 d .nil) [.box [pL 3 e.Types],.box [pS b.Name,pL 7 b.Fields,pL 5 b.Methods],.box [pS a.Name,pL 1 a.Params,pI a.Result,pL 1 a.Locals,pL 8 a.Code]]) (fun(d,e,b,a,f,c)=>J (.exit 0) (tL 0 8 d<| .cons 1 (.fn 186 [(.box 0 0),(.box 1 0),(.box 2 0)])<|tI 7 e<|tI 8 b<|tB 9 false .nil) [.box [pL 3 a.Types],.box [pS f.Name,pL 7 f.Fields,pL 5 f.Methods],.box [pS c.Name,pL 1 c.Params,pI c.Result,pL 1 c.Locals,pL 8 c.Code]])
def rR:dT:=jS 411 Ea (E4 cc n) eD
def DG {cc call}(hc:bO cc call)(n):bt (rR cc n) call n 3 (411,[0,1,7,8],C4,true):=eo aS hc aV
def Bf (l:LD)(t:ah)(m:aj)(q:LD):R:=itL (iM cc n (fun(e,f,c,a)=>some (pI e,[.box [pL 3 f.Types],.box [pS c.Name,pL 7 c.Fields,pL 5 c.Methods],.box [pS a.Name,pL 1 a.Params,pI a.Result,pL 1 a.Locals,pL 8 a.Code]])) (fun(j,h,i,g,d,b)=>some (pI (-1),[.box [pL 3 g.Types],.box [pS d.Name,pL 7 d.Fields,pL 5 d.Methods],.box [pS b.Name,pL 1 b.Params,pI b.Result,pL 1 b.Locals,pL 8 b.Code]]))) n (q,↑q.length,0,av.mk l,t,m)
def Nk (n:Nat)(l:LD)(t:ah)(m:aj)(q:LD):=Š (fun cc=>Bf cc n l t m q) 242 [pL 8 q,.fn 186 [.box 0 0,.box 1 0,.box 2 0]] [.box [pL 3 l],t.b,m.b] 3 n aS (fun cc=>rR cc n) (fun hc=>bC (DG hc n) aV)
def Hq (n:Nat)(c:av)(b:ah)(a:aj):R:=iL (aG 4 ↑a.Params.length) rF (cc 184 [pL 1 a.Params] [] fun m y=>dP m fun I=>aH I fun j=>af y<|iL j (iL (!az a.Result 0) (cc 183 [pI a.Result] [] fun t C=>dP t fun K=>aH K fun l=>af C<|iL l (iL (aG 8 ↑a.Locals.length) rF (cc 184 [pL 1 a.Locals] [] fun u v=>dP u fun D=>aH D fun d=>af v<|iL d (iL (aG ↑a.Locals.length ↑a.Params.length) rF (iL (aL ↑a.Params.length ↑a.Locals.length) (cc 110 [pL 1 (List.take (Int.toNat ↑a.Params.length - 0) (List.drop 0 a.Locals)),pL 1 a.Params] [] fun o w=>dP o fun E=>aH E fun e=>cf [] w<|iL e (iL (az (↑a.Code.length) 0) rF (cc 185 [pL 8 a.Code,.fn 186 [.box 0 0,.box 1 0,.box 2 0]] [.box [pL 3 c.Types],.box [pS b.Name,pL 7 b.Fields,pL 5 b.Methods],.box [pS a.Name,pL 1 a.Params,pI a.Result,pL 1 a.Locals,pL 8 a.Code]] fun p x=>dP p fun F=>aH F fun f=>cf [.box [pL 3 c.Types],.box [pS b.Name,pL 7 b.Fields,pL 5 b.Methods],.box [pS a.Name,pL 1 a.Params,pI a.Result,pL 1 a.Locals,pL 8 a.Code]] x<|iL f rF rT)) rF) (none))) rF)) rF) (iL (aG 8 ↑a.Locals.length) rF (cc 184 [pL 1 a.Locals] [] fun q z=>dP q fun G=>aH G fun g=>af z<|iL g (iL (aG ↑a.Locals.length ↑a.Params.length) rF (iL (aL ↑a.Params.length ↑a.Locals.length) (cc 110 [pL 1 (List.take (Int.toNat ↑a.Params.length - 0) (List.drop 0 a.Locals)),pL 1 a.Params] [] fun r A=>dP r fun H=>aH H fun h=>cf [] A<|iL h (iL (az (↑a.Code.length) 0) rF (cc 185 [pL 8 a.Code,.fn 186 [.box 0 0,.box 1 0,.box 2 0]] [.box [pL 3 c.Types],.box [pS b.Name,pL 7 b.Fields,pL 5 b.Methods],.box [pS a.Name,pL 1 a.Params,pI a.Result,pL 1 a.Locals,pL 8 a.Code]] fun s B=>dP s fun J=>aH J fun i=>cf [.box [pL 3 c.Types],.box [pS b.Name,pL 7 b.Fields,pL 5 b.Methods],.box [pS a.Name,pL 1 a.Params,pI a.Result,pL 1 a.Locals,pL 8 a.Code]] B<|iL i rF rT)) rF) (none))) rF))) rF)
def RC (n:Nat)(a:av)(b:ah)(c:aj):=df (fun cc=>Hq cc n a b c) 107 [.p a.e,.p b.e,.p c.e] [] 0 n aS
def Hx (n:Nat)(a:aw)(e:Int):R:=iL (az a.Kind e) (cc 87 [.p a.e] [] fun c d=>dP c fun f=>aH f fun b=>af d<|some (pB b,[])) rF
def RJ (n:Nat)(a:aw)(b:Int):=df (fun cc=>Hx cc n a b) 47 [.p a.e,pI b] [] 0 n bQ
def p_:=cK (gz 83).body 1 0
abbrev Ι:=LD×LD×Int×Int
def Ť (n:Nat)(i:aw->R)(j:LD×LD×Int×Int×Bool->R)(Y:Ι->R):Ι->R:=fun(c,d,b,a)=>iL (aG a b) (cL (bU d a) fun o=>ao o fun e=>cL (bU c a) fun p=>ba .i64 p fun h=>cc 47 [.p e.e,pI h] [] fun g l=>dP g fun m=>aH m fun f=>af l<|iL (!f) (i e) (Y (c,d,b,ag .i64 (a+1)))) (j (c,d,b,a,aG a b))
def r_:Rd f9 Ι:= .tl<| .l 1 1<| .v 2 (.P (.FP 47 .n))<| .l 15 5<| .i 16<| .i 17<| .h .n
def y_ (J:JJ):=Ť cc n (fun a=>J .ret (tB 6 false .nil) [.box [pI a.Kind,pI a.N,pS a.S,pL 1 a.I,pL 1 a.L]]) (fun(a,b,c,d,e)=>J (.exit 0) (tL 1 1 a<| .cons 2 (.p (.fn 47 []))<|tL 15 5 b<|tI 16 c<|tI 17 d<|tB 18 e .nil) [])
def ϒ:dT:=jS 1691 r_ (y_ cc n) eD
def q_ {cc call}(hc:bO cc call)(n):bt (ϒ cc n) call n 0 (1691,[1,2,15,16,17],p_,true):=eo bQ hc aV
def x_ (l:LD)(m:LD):R:=iL (!az ↑l.length ↑m.length) rF (itL (Ť cc n (fun f=>rF) (fun(d,e,b,c,a)=>rT)) n (m,l,↑l.length,0))
def K_ (n:Nat)(l:LD)(m:LD):=Š (fun cc=>x_ cc n l m) 83 [pL 5 l,pL 1 m,.p (.fn 47 [])] [] 0 n bQ (fun cc=>ϒ cc n) (fun hc=>bC (q_ hc n) aV)
def ϐ (n:Nat)(d:LD)(e:LD):R:=cc 83 [pL 5 d,pL 1 e,.p (.fn 47 [])] [] fun b c=>dP b fun f=>aH f fun a=>cf [] c<|some (pB a,[])
def o_ (n:Nat)(a:LD)(b:LD):=df (fun cc=>ϐ cc n a b) 38 [pL 5 a,pL 1 b] [] 0 n bQ
def Bj (n:Nat)(a:aw):R:=cc 76 [pL 1 a.I] [] fun b i=>dF 0 1 b fun f=>ab i fun o j=>cO o fun e=>af j<|cc 77 [pL 1 a.L] [] fun c l=>dF 0 1 c fun g=>ab l fun m h=>cO m fun d=>af h<|some (.agg [pI a.Kind,pI a.N,pS a.S,.arr 0 0 f 1,.arr 1 0 g 1],[.arr e,.arr d])
def Nq (n:Nat)(a:aw):=df (fun cc=>Bj cc n a) 55 [.p a.e] [] 0 n bQ
def zN:=cK (gz 39).body 1 0
abbrev lI:=Nat×Int×Int×LD
def gS (n:Nat)(o:Nat×Int×Int×Bool×LD->R)(Y:lI->R):lI->R:=fun(d,b,a,c)=>iL (aG a b) (iL (aL 0 a) (iL (aG a ↑d) (cL (c[0+Int.toNat a]?) fun H=>ao H fun D=>cc 55 [.p D.e] [] fun e t=>afe e fun w=>ab w fun f x=>dP f fun I=>ba .i64 I fun l=>ab x fun g y=>dP g fun J=>ba .i64 J fun m=>ab y fun h z=>dP h fun K=>eR K fun C=>ab z fun i A=>dF 0 1 i fun r=>ab A fun j B=>dF 1 1 j fun s=>af B<|ab t fun E u=>cO E fun p=>ab u fun F v=>cO F fun q=>af v<|iL (aL 0 a) (iL (aG a ↑d) (cL (c[0+Int.toNat a]?) fun L=>ao L fun G=>Y (d,b,ag .i64 (a+1),List.set c (0+Int.toNat a) (Da.agg (splice (cells (aw.e G)) 0 (cells (Da.agg [Da.int .i64 l,Da.int .i64 m,Da.str C,Da.slice 1 (List.take r (List.drop 0 p)),Da.slice 1 (List.take s (List.drop 0 q))])))))) (none)) (none)) (none)) (none)) (o (d,b,a,aG a b,c))
def Aw:Rd f9 lI:= .tl<| .t 3 (.Ar 0 5)<| .i 8<| .i 9<| .h (.c .Oa .n)
def BT (J:JJ):=gS cc n (fun(a,b,c,d,e)=>J (.exit 0) (.cons 3 (.arr 0 0 a 5)<|tI 8 b<|tI 9 c<|tB 10 d .nil) [.arr e])
def qh:dT:=jS 1691 Aw (BT cc n) eD
def Ag {cc call}(hc:bO cc call)(n):bt (qh cc n) call n 0 (1691,[3,8,9],zN,true):=eo sE hc aV
def xh (h:LD):R:=cc 84 [pL 5 h] [] fun b f=>dF 0 5 b fun a=>ab f fun i g=>cO i fun d=>af g<|itL (gS cc n (fun(e,l,m,j,c)=>some ((.arr 0 0 e 5),[.arr c]))) n (a,↑a,0,d)
def JR (n:Nat)(a:LD):=Š (fun cc=>xh cc n a) 39 [pL 5 a] [] 0 n sE (fun cc=>qh cc n) (fun hc=>bC (Ag hc n) aV)
def pC:=cK (gz 11).body 1 0
def zK:=cK pC 411 0
abbrev lH:=LD×Int×Int
def fI (cc:ae)(n:Nat)(e:R)(f:LD×Int×Int×Bool->R)(Y:lH->R):lH->R:=fun(c,b,a)=>cL (bU c b) fun i=>ao i fun d=>iL (aG a ↑d.L.length) (cL (bU c b) fun j=>ao j fun h=>cL (bU h.L a) fun l=>eR l fun g=>iL (aG 100 ↑g.length) (e) (Y (c,b,ag .i64 (a+1)))) (f (c,b,a,aG a ↑d.L.length))
def At:Rd f9 lH:= .tl<| .l 0 5<| .i 3<| .i 4<| .h .n
def BQ (J:JJ):=fI cc n (J .ret (tB 2 false .nil) []) (fun(a,b,c,d)=>J (.exit 2) (tL 0 5 a<|tI 3 b<|tI 4 c<|tB 43 d .nil) [])
def qe:dT:=jS 1685995 At (BQ cc n) eD
def Ad {cc call}(hc:bO cc call)(n):bt (qe cc n) call n 0 (1685995,[0,3,4],zK,true):=eo y9 hc aV
abbrev lG:=LD×Int
def fH (c:R)(e:LD×Int×Bool->R)(Y:lG->R):lG->R:=fun(b,a)=>iL (aG a ↑b.length) (cL (bU b a) fun j=>ao j fun g=>iL (aG 100 ↑g.S.length) (c) (cL (bU b a) fun l=>ao l fun h=>iL (aG 40 ↑h.I.length) (c) (cL (bU b a) fun m=>ao m fun i=>iL (aG 40 ↑i.L.length) (c) (itL (fI cc n (c) (fun(f,d,p,o)=>Y (f,ag .i64 (d+1)))) n (b,a,0))))) (e (b,a,aG a ↑b.length))
def As:Rd f9 lG:= .tl<| .l 0 5<| .i 3<| .h .n
def BP (J:JJ):=fH cc n (J .ret (tB 2 false .nil) []) (fun(a,b,c)=>J (.exit 0) (tL 0 5 a<|tI 3 b<|tB 8 c .nil) [])
def qd:dT:=jS 411 As (BP cc n) (qe cc n)
def Ac {cc call}(hc:bO cc call)(n):bt (qd cc n) call n 0 (411,[0,3],pC,true):=eo y9 hc (bC (Ad hc n) aV)
def xa (b:LD):R:=itL (fH cc n rF (fun(a,d,c)=>some (pB (aL (↑a.length) 20),[]))) n (b,0)
def JL (n:Nat)(a:LD):=Š (fun cc=>xa cc n a) 11 [pL 5 a] [] 0 n y9 (fun cc=>qd cc n) (fun hc=>bC (Ac hc n) aV)
def Gm:=cK (gz 35).body 1 0
abbrev mS:=Int×aw
def jW (cc:ae)(n:Nat)(c:aw->R)(d:mS->R)(Y:mS->R):mS->R:=fun(b,a)=>iL (aG b ↑a.L.length) (cL (bU a.L b) fun f=>eR f fun e=>iL (aG 100 ↑e.length) (c a) (Y (ag .i64 (b+1),a))) (d (b,a))
def GY:Rd f9 mS:= .tl<| .o 1 0<| .i 3<| .h (.c (.Ob (.ci<| .ci<| .cs<| .cl 1<| .cl 1 .n)) .n)
def Jw (J:JJ):=jW cc n (fun a=>J .ret (tB 2 false .nil) [.box [pI a.Kind,pI a.N,pS a.S,pL 1 a.I,pL 1 a.L]]) (fun(a,b)=>J (.exit 0) (tO 1 0<|tI 3 a<|tB 8 false .nil) [.box [pI b.Kind,pI b.N,pS b.S,pL 1 b.I,pL 1 b.L]])
def vM:dT:=jS 411 GY (Jw cc n) eD
def GC {cc call}(hc:bO cc call)(n):bt (vM cc n) call n 0 (411,[1,3],Gm,true):=eo hR hc aV
def Hu (b:aw):R:=itL (jW cc n (fun d=>rF) (fun(c,a)=>iL (aL (↑a.S.length) 100) (iL (aL (↑a.I.length) 40) (iL (aL (↑a.L.length) 40) rT rF) rF) rF)) n (0,b)
def RG (n:Nat)(a:aw):=Š (fun cc=>Hu cc n a) 35 [.p a.e] [] 0 n hR (fun cc=>vM cc n) (fun hc=>bC (GC hc n) aV)
def nY:=cK (gz 10).body 1 0
def Gi:=cK nY 1691 0
def uL:=cK nY 1691 1
def Gj:=cK uL 110861995 0
abbrev mK:=Int×Int×av×ah
def gm (n:Nat)(f:av×ah->R)(i:mK->R)(Y:mK->R):mK->R:=fun(e,b,d,a)=>iL (aG b ↑a.Fields.length) (cL (bU a.Fields b) fun p=>bE p fun l=>iL (aG 100 ↑l.Name.length) (f (d,a)) (cL (bU a.Fields b) fun m=>bE m fun c=>cc 35 [.p (.agg [.int .i64 c.Init_Kind,.int .i64 c.Init_N,.str c.Init_S,.slice 1 c.Init_I,.slice 1 c.Init_L])] [] fun h j=>dP h fun o=>aH o fun g=>af j<|iL g (Y (e,ag .i64 (b+1),d,a)) (f (d,a)))) (i (e,b,d,a))
def GS:Rd f9 mK:= .rm (.o 1 0<| .i 3<| .o 4 1<| .i 5<| .h (.c (.Ob (.cl 3 .n))<| .c (.Ob (.cs<| .cl 7<| .cl 5 .n)) .n)) (fun(e,(f,((g,()),((h,(i,(j,()))),()))))=>(e,f,(av.mk g),(ah.mk h i j))) (fun(b,c,d,a)=>(b,(c,((d.Types,()),((a.Name,(a.Fields,(a.Methods,()))),())))))
def Jq (J:JJ):=gm cc n (fun(b,a)=>J .ret (tB 2 false .nil) [.box [pL 3 b.Types],.box [pS a.Name,pL 7 a.Fields,pL 5 a.Methods]]) (fun(b,a,d,c)=>J (.exit 2) (tO 1 0<|tI 3 b<|tO 4 1<|tI 5 a<|tB 45 false .nil) [.box [pL 3 d.Types],.box [pS c.Name,pL 7 c.Fields,pL 5 c.Methods]])
def vD:dT:=jS 110861979 GS (Jq cc n) eD
def Gw {cc call}(hc:bO cc call)(n):bt (vD cc n) call n 0 (110861979,[1,3,4,5],Gi,true):=eo cP hc aV
abbrev mM:=Int×Int×Int×av×ah×aj
def gn (n:Nat)(j:av×ah×aj->R)(l:mM->R)(Y:mM->R):mM->R:=fun(f,g,c,d,e,a)=>iL (aG c ↑a.Code.length) (cL (bU a.Code c) fun o=>bu o fun b=>cc 35 [.p (.agg [.int .i64 b.Value_Kind,.int .i64 b.Value_N,.str b.Value_S,.slice 1 b.Value_I,.slice 1 b.Value_L])] [] fun i m=>dP i fun p=>aH p fun h=>af m<|iL h (Y (f,g,ag .i64 (c+1),d,e,a)) (j (d,e,a))) (l (f,g,c,d,e,a))
def GU:Rd f9 mM:= .rm (.o 1 0<| .i 3<| .o 4 1<| .i 6<| .o 7 2<| .i 8<| .h (.c (.Ob (.cl 3 .n))<| .c (.Ob (.cs<| .cl 7<| .cl 5 .n)) (.c (.Ob (.cs<| .cl 1<| .ci<| .cl 1<| .cl 8 .n)) .n))) (fun(g,(h,(l,((m,()),((n,(o,(p,()))),((q,(r,(s,(i,(j,()))))),()))))))=>(g,h,l,(av.mk m),(ah.mk n o p),(aj.mk q r s i j))) (fun(c,d,e,f,b,a)=>(c,(d,(e,((f.Types,()),((b.Name,(b.Fields,(b.Methods,()))),((a.Name,(a.Params,(a.Result,(a.Locals,(a.Code,()))))),())))))))
def Js (J:JJ):=gn cc n (fun(d,b,a)=>J .ret (tB 2 false .nil) [.box [pL 3 d.Types],.box [pS b.Name,pL 7 b.Fields,pL 5 b.Methods],.box [pS a.Name,pL 1 a.Params,pI a.Result,pL 1 a.Locals,pL 8 a.Code]]) (fun(d,b,a,f,e,c)=>J (.exit 6) (tO 1 0<|tI 3 d<|tO 4 1<|tI 6 b<|tO 7 2<|tI 8 a<|tB 104 false .nil) [.box [pL 3 f.Types],.box [pS e.Name,pL 7 e.Fields,pL 5 e.Methods],.box [pS c.Name,pL 1 c.Params,pI c.Result,pL 1 c.Locals,pL 8 c.Code]])
def vF:dT:=jS 1816362936235 GU (Js cc n) (vD cc n)
def Gy {cc call}(hc:bO cc call)(n):bt (vF cc n) call n 0 (1816362936235,[1,3,4,6,7,8],Gj,true):=eo cP hc aV
abbrev mL:=Int×Int×av×ah
def fE (d:av×ah×aj->R)(i:mL->R)(Y:mL->R):mL->R:=fun(f,e,c,b)=>iL (aG e ↑b.Methods.length) (cL (bU b.Methods e) fun q=>aN q fun a=>iL (aG 100 ↑a.Name.length) (d (c,b,a)) (iL (aG 20 ↑a.Params.length) (d (c,b,a)) (iL (aG 40 ↑a.Locals.length) (d (c,b,a)) (iL (aG 120 ↑a.Code.length) (d (c,b,a)) (itL (gn cc n (fun(j,l,m)=>d (j,l,m)) (fun(g,h,r,o,p,s)=>Y (g,ag .i64 (h+1),o,p))) n (f,e,0,c,b,a)))))) (i (f,e,c,b))
def GT:Rd f9 mL:= .rm (.o 1 0<| .i 3<| .o 4 1<| .i 6<| .h (.c (.Ob (.cl 3 .n))<| .c (.Ob (.cs<| .cl 7<| .cl 5 .n)) .n)) (fun(e,(f,((g,()),((h,(i,(j,()))),()))))=>(e,f,(av.mk g),(ah.mk h i j))) (fun(b,c,d,a)=>(b,(c,((d.Types,()),((a.Name,(a.Fields,(a.Methods,()))),())))))
def Jr (J:JJ):=fE cc n (fun(c,b,a)=>J .ret (tB 2 false .nil) [.box [pL 3 c.Types],.box [pS b.Name,pL 7 b.Fields,pL 5 b.Methods],.box [pS a.Name,pL 1 a.Params,pI a.Result,pL 1 a.Locals,pL 8 a.Code]]) (fun(c,b,a,d)=>J (.exit 4) (tO 1 0<|tI 3 c<|tO 4 1<|tI 6 b<|tB 70 false .nil) [.box [pL 3 a.Types],.box [pS d.Name,pL 7 d.Fields,pL 5 d.Methods]])
def vE:dT:=jS 110861995 GT (Jr cc n) (vF cc n)
def Gx {cc call}(hc:bO cc call)(n):bt (vE cc n) call n 0 (110861995,[1,3,4,6],uL,true):=eo cP hc (bC (Gy hc n) aV)
abbrev mJ:=Int×av
def eW (d:av×ah->R)(g:av×ah×aj->R)(h:mJ->R)(Y:mJ->R):mJ->R:=fun(c,a)=>iL (aG c ↑a.Types.length) (cL (bU a.Types c) fun s=>aF s fun b=>iL (aG 100 ↑b.Name.length) (d (a,b)) (iL (aG 20 ↑b.Fields.length) (d (a,b)) (iL (aG 20 ↑b.Methods.length) (d (a,b)) (itL (gm cc n (fun(i,j)=>d (i,j)) (fun(e,t,l,m)=>itL (fE cc n (fun(o,p,q)=>g (o,p,q)) (fun(f,u,r,v)=>Y (ag .i64 (f+1),r))) n (e,0,l,m))) n (c,0,a,b))))) (h (c,a))
def GQ:Rd f9 mJ:= .rm (.o 1 0<| .i 3<| .h (.c (.Ob (.cl 3 .n)) .n)) (fun(c,((d,()),()))=>(c,(av.mk d))) (fun(a,b)=>(a,((b.Types,()),())))
def Jp (J:JJ):=eW cc n (fun(b,a)=>J .ret (tB 2 false .nil) [.box [pL 3 b.Types],.box [pS a.Name,pL 7 a.Fields,pL 5 a.Methods]]) (fun(b,a,c)=>J .ret (tB 2 false .nil) [.box [pL 3 b.Types],.box [pS a.Name,pL 7 a.Fields,pL 5 a.Methods],.box [pS c.Name,pL 1 c.Params,pI c.Result,pL 1 c.Locals,pL 8 c.Code]]) (fun(b,a)=>J (.exit 0) (tO 1 0<|tI 3 b<|tB 17 false .nil) [.box [pL 3 a.Types]])
def vC:dT:=jS 1691 GQ (Jp cc n) (vE cc n)
def Gv {cc call}(hc:bO cc call)(n):bt (vC cc n) call n 0 (1691,[1,3],nY,true):=eo cP hc (bC (Dn (Dn (Gw hc n))) (bC (Gx hc n) aV))
def Hm (a:av):R:=iL (aG 20 ↑a.Types.length) rF (itL (eW cc n (fun(c,d)=>rF) (fun(e,f,g)=>rF) (fun(b,h)=>rT)) n (0,a))
def Ry (n:Nat)(a:av):=Š (fun cc=>Hm cc n a) 10 [.p a.e] [] 0 n cP (fun cc=>vC cc n) (fun hc=>bC (Gv hc n) aV)
def A0 (cc:ae)(n:Nat)(l:LD)(i:Int):R:=cL (bU l i) fun b=>aF b fun a=>some (pS a.Name,[.box [pL 3 l]])
def M5 (n:Nat)(l:LD)(i:Int):=df (fun cc=>A0 cc n l i) 103 [pI i,.box 0 0] [.box [pL 3 l]] 1 n cP
def A1 (cc:ae)(n:Nat)(x:ah)(i:Int):R:=cL (bU x.Fields i) fun b=>bE b fun a=>some (pS a.Name,[.box [pS x.Name,pL 7 x.Fields,pL 5 x.Methods]])
def M6 (n:Nat)(x:ah)(i:Int):=df (fun cc=>A1 cc n x i) 179 [pI i,.box 0 0] [x.b] 1 n cP
def A2 (cc:ae)(n:Nat)(x:ah)(i:Int):R:=cL (bU x.Methods i) fun b=>aN b fun a=>some (pS a.Name,[.box [pS x.Name,pL 7 x.Fields,pL 5 x.Methods]])
def M7 (n:Nat)(x:ah)(i:Int):=df (fun cc=>A2 cc n x i) 180 [pI i,.box 0 0] [x.b] 1 n cP
def C0:=cK (gz 102).body 1 0
abbrev kq:=Int×Int×av×LD×LD
def iH (n:Nat)(g:av×LD×LD->R)(m:kq->R)(Y:kq->R):kq->R:=fun(e,d,b,a,c)=>iL (aG d e) (cc 103 [pI d,.box 0 0] [.box [pL 3 b.Types]] fun l s=>dP l fun v=>eR v fun f=>cf [.box [pL 3 b.Types]] s<|cc 178 [pS f] [] fun j r=>dP j fun t=>aH t fun h=>af r<|iL h (cL (cr TypeDesc.string (Da.str f) a 0) fun w=>od w (cL (cr TypeDesc.string (Da.str f) a 0) fun x=>od x (Y (e,ag .i64 (d+1),b,a++[Da.str f],c++[Da.bool true])) fun o=>Y (e,ag .i64 (d+1),b,a,List.set c o (Da.bool true))) fun p=>cL c[p]? fun u=>aH u fun i=>iL i (g (b,a,c)) (cL (cr TypeDesc.string (Da.str f) a 0) fun y=>od y (Y (e,ag .i64 (d+1),b,a++[Da.str f],c++[Da.bool true])) fun q=>Y (e,ag .i64 (d+1),b,a,List.set c q (Da.bool true)))) (g (b,a,c))) (m (e,d,b,a,c))
def D6:Rd f9 kq:= .rm (.v 1 (.F 103 (.co 0 .n))<| .v 5 (.Mp 1)<| .i 9<| .i 10<| .h (.c (.Ob (.cl 3 .n))<| .c .Om .n)) (fun(f,(g,((h,()),((i,j),()))))=>(f,g,(av.mk h),i,j)) (fun(a,b,c,d,e)=>(a,(b,((c.Types,()),((d,e),())))))
def E0 (J:JJ):=iH cc n (fun(a,b,c)=>J .ret (tB 4 false .nil) [.box [pL 3 a.Types],(.map b c)]) (fun(a,b,c,d,e)=>J (.exit 0) (.cons 1 (.fn 103 [(.box 0 0)])<| .cons 5 (.map 1)<|tI 9 a<|tI 10 b<|tB 11 false .nil) [.box [pL 3 c.Types],(.map d e)])
def rN:dT:=jS 1691 D6 (E0 cc n) eD
def DC {cc call}(hc:bO cc call)(n):bt (rN cc n) call n 1 (1691,[1,5,9,10],C0,true):=eo aS hc aV
def AV (l:LD)(z:Int):R:=itL (iH cc n (fun(a,e,f)=>some (pB false,[.box [pL 3 a.Types]])) (fun(c,d,b,g,h)=>some (pB true,[.box [pL 3 b.Types]]))) n (z,0,av.mk l,[],[])
def M0 (n:Nat)(l:LD)(z:Int):=Š (fun cc=>AV cc n l z) 102 [pI z,.fn 103 [.box 0 0]] [.box [pL 3 l]] 1 n aS (fun cc=>rN cc n) (fun hc=>bC (DC hc n) aV)
def C1:=cK (gz 102).body 1 0
abbrev ku:=Int×Int×ah×LD×LD
def iI (n:Nat)(g:ah×LD×LD->R)(m:ku->R)(Y:ku->R):ku->R:=fun(e,d,a,b,c)=>iL (aG d e) (cc 179 [pI d,.box 0 0] [.box [pS a.Name,pL 7 a.Fields,pL 5 a.Methods]] fun l s=>dP l fun v=>eR v fun f=>cf [.box [pS a.Name,pL 7 a.Fields,pL 5 a.Methods]] s<|cc 178 [pS f] [] fun j r=>dP j fun t=>aH t fun h=>af r<|iL h (cL (cr TypeDesc.string (Da.str f) b 0) fun w=>od w (cL (cr TypeDesc.string (Da.str f) b 0) fun x=>od x (Y (e,ag .i64 (d+1),a,b++[Da.str f],c++[Da.bool true])) fun o=>Y (e,ag .i64 (d+1),a,b,List.set c o (Da.bool true))) fun p=>cL c[p]? fun u=>aH u fun i=>iL i (g (a,b,c)) (cL (cr TypeDesc.string (Da.str f) b 0) fun y=>od y (Y (e,ag .i64 (d+1),a,b++[Da.str f],c++[Da.bool true])) fun q=>Y (e,ag .i64 (d+1),a,b,List.set c q (Da.bool true)))) (g (a,b,c))) (m (e,d,a,b,c))
def D7:Rd f9 ku:= .rm (.v 1 (.F 179 (.co 0 .n))<| .v 5 (.Mp 1)<| .i 9<| .i 10<| .h (.c (.Ob (.cs<| .cl 7<| .cl 5 .n)) (.c .Om .n))) (fun(f,(g,((h,(i,(j,()))),((l,m),()))))=>(f,g,(ah.mk h i j),l,m)) (fun(b,c,a,d,e)=>(b,(c,((a.Name,(a.Fields,(a.Methods,()))),((d,e),())))))
def E1 (J:JJ):=iI cc n (fun(a,c,b)=>J .ret (tB 4 false .nil) [.box [pS a.Name,pL 7 a.Fields,pL 5 a.Methods],(.map c b)]) (fun(a,c,b,d,e)=>J (.exit 0) (.cons 1 (.fn 179 [(.box 0 0)])<| .cons 5 (.map 1)<|tI 9 a<|tI 10 c<|tB 11 false .nil) [.box [pS b.Name,pL 7 b.Fields,pL 5 b.Methods],(.map d e)])
def rO:dT:=jS 1691 D7 (E1 cc n) eD
def DD {cc call}(hc:bO cc call)(n):bt (rO cc n) call n 1 (1691,[1,5,9,10],C1,true):=eo aS hc aV
def AW (x:ah)(z:Int):R:=itL (iI cc n (fun(a,e,f)=>some (pB false,[.box [pS a.Name,pL 7 a.Fields,pL 5 a.Methods]])) (fun(c,d,b,g,h)=>some (pB true,[.box [pS b.Name,pL 7 b.Fields,pL 5 b.Methods]]))) n (z,0,x,[],[])
def M1 (n:Nat)(x:ah)(z:Int):=Š (fun cc=>AW cc n x z) 102 [pI z,.fn 179 [.box 0 0]] [x.b] 1 n aS (fun cc=>rO cc n) (fun hc=>bC (DD hc n) aV)
def C2:=cK (gz 102).body 1 0
abbrev kw:=Int×Int×ah×LD×LD
def iJ (n:Nat)(g:ah×LD×LD->R)(m:kw->R)(Y:kw->R):kw->R:=fun(e,d,a,b,c)=>iL (aG d e) (cc 180 [pI d,.box 0 0] [.box [pS a.Name,pL 7 a.Fields,pL 5 a.Methods]] fun l s=>dP l fun v=>eR v fun f=>cf [.box [pS a.Name,pL 7 a.Fields,pL 5 a.Methods]] s<|cc 178 [pS f] [] fun j r=>dP j fun t=>aH t fun h=>af r<|iL h (cL (cr TypeDesc.string (Da.str f) b 0) fun w=>od w (cL (cr TypeDesc.string (Da.str f) b 0) fun x=>od x (Y (e,ag .i64 (d+1),a,b++[Da.str f],c++[Da.bool true])) fun o=>Y (e,ag .i64 (d+1),a,b,List.set c o (Da.bool true))) fun p=>cL c[p]? fun u=>aH u fun i=>iL i (g (a,b,c)) (cL (cr TypeDesc.string (Da.str f) b 0) fun y=>od y (Y (e,ag .i64 (d+1),a,b++[Da.str f],c++[Da.bool true])) fun q=>Y (e,ag .i64 (d+1),a,b,List.set c q (Da.bool true)))) (g (a,b,c))) (m (e,d,a,b,c))
def D8:Rd f9 kw:= .rm (.v 1 (.F 180 (.co 0 .n))<| .v 5 (.Mp 1)<| .i 9<| .i 10<| .h (.c (.Ob (.cs<| .cl 7<| .cl 5 .n)) (.c .Om .n))) (fun(f,(g,((h,(i,(j,()))),((l,m),()))))=>(f,g,(ah.mk h i j),l,m)) (fun(b,c,a,d,e)=>(b,(c,((a.Name,(a.Fields,(a.Methods,()))),((d,e),())))))
def E2 (J:JJ):=iJ cc n (fun(a,c,b)=>J .ret (tB 4 false .nil) [.box [pS a.Name,pL 7 a.Fields,pL 5 a.Methods],(.map c b)]) (fun(a,c,b,d,e)=>J (.exit 0) (.cons 1 (.fn 180 [(.box 0 0)])<| .cons 5 (.map 1)<|tI 9 a<|tI 10 c<|tB 11 false .nil) [.box [pS b.Name,pL 7 b.Fields,pL 5 b.Methods],(.map d e)])
def rP:dT:=jS 1691 D8 (E2 cc n) eD
def DE {cc call}(hc:bO cc call)(n):bt (rP cc n) call n 1 (1691,[1,5,9,10],C2,true):=eo aS hc aV
def AX (x:ah)(z:Int):R:=itL (iJ cc n (fun(a,e,f)=>some (pB false,[.box [pS a.Name,pL 7 a.Fields,pL 5 a.Methods]])) (fun(c,d,b,g,h)=>some (pB true,[.box [pS b.Name,pL 7 b.Fields,pL 5 b.Methods]]))) n (z,0,x,[],[])
def M2 (n:Nat)(x:ah)(z:Int):=Š (fun cc=>AX cc n x z) 102 [pI z,.fn 180 [.box 0 0]] [x.b] 1 n aS (fun cc=>rP cc n) (fun hc=>bC (DE hc n) aV)
def A5 (n:Nat)(a:cz):R:=cc 183 [pI a.Kind] [] fun d f=>dP d fun h=>aH h fun b=>af f<|iL b (iL (!az a.Init_Kind a.Kind) rT (cc 87 [.p (.agg [.int .i64 a.Init_Kind,.int .i64 a.Init_N,.str a.Init_S,.slice 1 a.Init_I,.slice 1 a.Init_L])] [] fun e g=>dP e fun i=>aH i fun c=>af g<|iL c rF rT)) rT
def Na (n:Nat)(a:cz):=df (fun cc=>A5 cc n a) 182 [.p a.e] [] 0 n aS
def A9 (n:Nat)(q:LD):R:=cc 239 [pL 7 q,.p (.fn 182 [])] [] fun a c=>dP a fun d=>ba .i64 d fun b=>cf [] c<|iL (aL 0 b) rT rF
def Nf (n:Nat)(q:LD):=df (fun cc=>A9 cc n q) 181 [pL 7 q,.p (.fn 182 [])] [] 0 n aS
def C3:=cK (gz 239).body 1 0
abbrev kx:=LD×Int×Int
def iK (n:Nat)(g:Int->R)(h:kx->R)(Y:kx->R):kx->R:=fun(d,c,b)=>iL (aG b c) (cL (bU d b) fun j=>bE j fun a=>cc 182 [.p (.agg [.str a.Name,.int .i64 a.Kind,.int .i64 a.Init_Kind,.int .i64 a.Init_N,.str a.Init_S,.slice 1 a.Init_I,.slice 1 a.Init_L])] [] fun f i=>dP f fun l=>aH l fun e=>af i<|iL e (g b) (Y (d,c,ag .i64 (b+1)))) (h (d,c,b))
def D9:Rd f9 kx:= .tl<| .l 0 7<| .v 1 (.P (.FP 182 .n))<| .i 7<| .i 8<| .h .n
def E3 (J:JJ):=iK cc n (fun a=>J .ret (tI 4 a .nil) []) (fun(a,b,c)=>J (.exit 0) (tL 0 7 a<| .cons 1 (.p (.fn 182 []))<|tI 7 b<|tI 8 c<|tB 9 false .nil) [])
def rQ:dT:=jS 411 D9 (E3 cc n) eD
def DF {cc call}(hc:bO cc call)(n):bt (rQ cc n) call n 0 (411,[0,1,7,8],C3,true):=eo aS hc aV
def Be (q:LD):R:=itL (iK cc n (fun a=>some (pI a,[])) (fun(d,b,c)=>some (pI (-1),[]))) n (q,↑q.length,0)
def Nj (n:Nat)(q:LD):=Š (fun cc=>Be cc n q) 239 [pL 7 q,.p (.fn 182 [])] [] 0 n aS (fun cc=>rQ cc n) (fun hc=>bC (DF hc n) aV)
def Hr (n:Nat)(a:ah):R:=iL (aG 8 ↑a.Fields.length) rF (iL (aG 16 ↑a.Methods.length) rF (cc 102 [pI (↑a.Fields.length),.fn 179 [.box 0 0]] [.box [pS a.Name,pL 7 a.Fields,pL 5 a.Methods]] fun e i=>dP e fun m=>aH m fun c=>cf [.box [pS a.Name,pL 7 a.Fields,pL 5 a.Methods]] i<|iL c (cc 102 [pI (↑a.Methods.length),.fn 180 [.box 0 0]] [.box [pS a.Name,pL 7 a.Fields,pL 5 a.Methods]] fun f j=>dP f fun o=>aH o fun d=>cf [.box [pS a.Name,pL 7 a.Fields,pL 5 a.Methods]] j<|iL d (cc 181 [pL 7 a.Fields,.p (.fn 182 [])] [] fun g h=>dP g fun l=>aH l fun b=>cf [] h<|iL b rF rT) rF) rF))
def RD (n:Nat)(a:ah):=df (fun cc=>Hr cc n a) 106 [.p a.e] [] 0 n aS
def AZ (n:Nat)(a:ah):R:=cc 106 [.p (.agg [.str a.Name,.slice 7 a.Fields,.slice 5 a.Methods])] [] fun c d=>dP c fun e=>aH e fun b=>af d<|iL b rF rT
def M4 (n:Nat)(a:ah):=df (fun cc=>AZ cc n a) 105 [.p a.e] [] 0 n aS
def Bd (n:Nat)(q:LD):R:=cc 139 [pL 3 q,.p (.fn 105 [])] [] fun a c=>dP a fun d=>ba .i64 d fun b=>cf [] c<|iL (aL 0 b) rT rF
def Ni (n:Nat)(q:LD):=df (fun cc=>Bd cc n q) 104 [pL 3 q,.p (.fn 105 [])] [] 0 n aS
def C5:=cK (gz 139).body 1 0
abbrev kA:=LD×Int×Int
def iN (n:Nat)(g:Int->R)(h:kA->R)(Y:kA->R):kA->R:=fun(c,b,a)=>iL (aG a b) (cL (bU c a) fun j=>aF j fun d=>cc 105 [.p (.agg [.str d.Name,.slice 7 d.Fields,.slice 5 d.Methods])] [] fun f i=>dP f fun l=>aH l fun e=>af i<|iL e (g a) (Y (c,b,ag .i64 (a+1)))) (h (c,b,a))
def Eb:Rd f9 kA:= .tl<| .l 0 3<| .v 1 (.P (.FP 105 .n))<| .i 7<| .i 8<| .h .n
def E5 (J:JJ):=iN cc n (fun a=>J .ret (tI 4 a .nil) []) (fun(a,b,c)=>J (.exit 0) (tL 0 3 a<| .cons 1 (.p (.fn 105 []))<|tI 7 b<|tI 8 c<|tB 9 false .nil) [])
def rS:dT:=jS 411 Eb (E5 cc n) eD
def DH {cc call}(hc:bO cc call)(n):bt (rS cc n) call n 0 (411,[0,1,7,8],C5,true):=eo aS hc aV
def Bg (q:LD):R:=itL (iN cc n (fun a=>some (pI a,[])) (fun(d,b,c)=>some (pI (-1),[]))) n (q,↑q.length,0)
def Nm (n:Nat)(q:LD):=Š (fun cc=>Bg cc n q) 139 [pL 3 q,.p (.fn 105 [])] [] 0 n aS (fun cc=>rS cc n) (fun hc=>bC (DH hc n) aV)
def uN:=cK (gz 63).body 1 0
def Gk:=cK uN 6811 0
abbrev mQ:=Int×LD×Int×Int×LD×Int×Int×av×ah
def jU (n:Nat)(j:av×ah×aj->R)(p:mQ->R)(Y:mQ->R):mQ->R:=fun(e,l,h,i,g,f,d,c,b)=>iL (aG d f) (cL (bU g d) fun r=>aN r fun a=>iL (aG 3000 (ag .i64 (e+ ↑a.Code.length))) (j (c,b,a)) (cc 107 [.p (.agg [.slice 3 c.Types]),.p (.agg [.str b.Name,.slice 7 b.Fields,.slice 5 b.Methods]),.p (.agg [.str a.Name,.slice 1 a.Params,.int .i64 a.Result,.slice 1 a.Locals,.slice 8 a.Code])] [] fun o q=>dP o fun s=>aH s fun m=>af q<|iL m (Y (ag .i64 (e+ ↑a.Code.length),l,h,i,g,f,ag .i64 (d+1),c,b)) (j (c,b,a)))) (p (e,l,h,i,g,f,d,c,b))
def GW:Rd f9 mQ:= .rm (.o 1 0<| .i 3<| .o 5 1<| .l 26 3<| .i 27<| .i 28<| .l 33 5<| .i 34<| .i 35<| .h (.c (.Ob (.cl 3 .n))<| .c (.Ob (.cs<| .cl 7<| .cl 5 .n)) .n)) (fun(j,(l,(n,(o,(p,(q,(r,((s,()),((t,(u,(m,()))),())))))))))=>(j,l,n,o,p,q,r,(av.mk s),(ah.mk t u m))) (fun(b,c,d,e,f,g,h,i,a)=>(b,(c,(d,(e,(f,(g,(h,((i.Types,()),((a.Name,(a.Fields,(a.Methods,()))),()))))))))))
def Ju (J:JJ):=jU cc n (fun(c,b,a)=>J .ret (tB 2 false .nil) [.box [pL 3 c.Types],.box [pS b.Name,pL 7 b.Fields,pL 5 b.Methods],.box [pS a.Name,pL 1 a.Params,pI a.Result,pL 1 a.Locals,pL 8 a.Code]]) (fun(c,b,a,e,f,g,h,i,d)=>J (.exit 2) (tO 1 0<|tI 3 c<|tO 5 1<|tL 26 3 b<|tI 27 a<|tI 28 e<|tL 33 5 f<|tI 34 g<|tI 35 h<|tB 36 false .nil) [.box [pL 3 i.Types],.box [pS d.Name,pL 7 d.Fields,pL 5 d.Methods]])
def vH:dT:=jS 111602155 GW (Ju cc n) eD
def GA {cc call}(hc:bO cc call)(n):bt (vH cc n) call n 0 (111602155,[1,3,5,26,27,28,33,34,35],Gk,true):=eo cP hc aV
abbrev mN:=Int×LD×Int×Int×av
def gp (j:av×ah×aj->R)(l:mN->R)(Y:mN->R):mN->R:=fun(e,c,b,a,f)=>iL (aG a b) (cL (bU c a) fun s=>aF s fun d=>itL (jU cc n (fun(o,p,q)=>j (o,p,q)) (fun(g,m,h,i,v,t,u,r,w)=>Y (g,m,h,ag .i64 (i+1),r))) n (e,c,b,a,d.Methods,↑d.Methods.length,0,f,d)) (l (e,c,b,a,f))
def GV:Rd f9 mN:= .rm (.o 1 0<| .i 3<| .l 26 3<| .i 27<| .i 28<| .h (.c (.Ob (.cl 3 .n)) .n)) (fun(f,(g,(h,(i,((j,()),())))))=>(f,g,h,i,(av.mk j))) (fun(a,b,c,d,e)=>(a,(b,(c,(d,((e.Types,()),()))))))
def Jt (J:JJ):=gp cc n (fun(c,b,a)=>J .ret (tB 2 false .nil) [.box [pL 3 c.Types],.box [pS b.Name,pL 7 b.Fields,pL 5 b.Methods],.box [pS a.Name,pL 1 a.Params,pI a.Result,pL 1 a.Locals,pL 8 a.Code]]) (fun(c,b,a,d,e)=>J (.exit 0) (tO 1 0<|tI 3 c<|tL 26 3 b<|tI 27 a<|tI 28 d<|tB 29 false .nil) [.box [pL 3 e.Types]])
def vG:dT:=jS 6811 GV (Jt cc n) (vH cc n)
def Gz {cc call}(hc:bO cc call)(n):bt (vG cc n) call n 0 (6811,[1,3,26,27,28],uN,true):=eo cP hc (bC (GA hc n) aV)
def Ho (a:av):R:=iL (aG 8 ↑a.Types.length) rF (cc 102 [pI (↑a.Types.length),.fn 103 [.box 0 0]] [.box [pL 3 a.Types]] fun d f=>dP d fun h=>aH h fun b=>cf [.box [pL 3 a.Types]] f<|iL b (cc 104 [pL 3 a.Types,.p (.fn 105 [])] [] fun e g=>dP e fun i=>aH i fun c=>cf [] g<|iL c rF (itL (gp cc n (fun(p,q,r)=>rF) (fun(j,o,l,m,s)=>rT)) n (0,a.Types,↑a.Types.length,0,a))) rF)
def RA (n:Nat)(a:av):=Š (fun cc=>Ho cc n a) 63 [.p a.e] [] 0 n cP (fun cc=>vG cc n) (fun hc=>bC (Gz hc n) aV)
def MK (n:Nat)(g:Int)(h:Int):R:=cc 371 [.p (.int .u64 g),.p (.int .u64 h)] [] fun a f=>ff a fun i=>ab i fun b j=>dP b fun o=>ba .u64 o fun e=>ab j fun c l=>dP c fun m=>ba .u64 m fun d=>af l<|af f<|some (.tup [.p (.int .u64 e),.p (.int .u64 d)],[])
def V5 (n:Nat)(a:Int)(b:Int):=df (fun cc=>MK cc n a b) 348 [.p (.int .u64 a),.p (.int .u64 b)] [] 0 n aS
def A8 (cc:ae)(n:Nat)(a:Int)(b:Int):R:=some (.tup [.p (.int .u64 (ag .u64 (ag .u64 (ag .u64 (Int.fdiv a (2 ^ min (Int.toNat 32) (IntKind.bits .u64))*Int.fdiv b (2 ^ min (Int.toNat 32) (IntKind.bits .u64)))+Int.fdiv (ag .u64 (ag .u64 (Int.fdiv a (2 ^ min (Int.toNat 32) (IntKind.bits .u64))*ag .u64 ↑(BitVec.toNat (BitVec.ofInt (IntKind.bits .u64) b &&& BitVec.ofInt (IntKind.bits .u64) 4294967295)))+Int.fdiv (ag .u64 (ag .u64 ↑(BitVec.toNat (BitVec.ofInt (IntKind.bits .u64) a &&& BitVec.ofInt (IntKind.bits .u64) 4294967295))*ag .u64 ↑(BitVec.toNat (BitVec.ofInt (IntKind.bits .u64) b &&& BitVec.ofInt (IntKind.bits .u64) 4294967295)))) (2 ^ min (Int.toNat 32) (IntKind.bits .u64)))) (2 ^ min (Int.toNat 32) (IntKind.bits .u64)))+Int.fdiv (ag .u64 (ag .u64 ↑(BitVec.toNat (BitVec.ofInt (IntKind.bits .u64) (ag .u64 (ag .u64 (Int.fdiv a (2 ^ min (Int.toNat 32) (IntKind.bits .u64))*ag .u64 ↑(BitVec.toNat (BitVec.ofInt (IntKind.bits .u64) b &&& BitVec.ofInt (IntKind.bits .u64) 4294967295)))+Int.fdiv (ag .u64 (ag .u64 ↑(BitVec.toNat (BitVec.ofInt (IntKind.bits .u64) a &&& BitVec.ofInt (IntKind.bits .u64) 4294967295))*ag .u64 ↑(BitVec.toNat (BitVec.ofInt (IntKind.bits .u64) b &&& BitVec.ofInt (IntKind.bits .u64) 4294967295)))) (2 ^ min (Int.toNat 32) (IntKind.bits .u64)))) &&& BitVec.ofInt (IntKind.bits .u64) 4294967295))+ag .u64 (ag .u64 ↑(BitVec.toNat (BitVec.ofInt (IntKind.bits .u64) a &&& BitVec.ofInt (IntKind.bits .u64) 4294967295))*Int.fdiv b (2 ^ min (Int.toNat 32) (IntKind.bits .u64))))) (2 ^ min (Int.toNat 32) (IntKind.bits .u64))))),.p (.int .u64 (ag .u64 (a*b)))],[])
def Nd (n:Nat)(a:Int)(b:Int):=df (fun cc=>A8 cc n a b) 371 [.p (.int .u64 a),.p (.int .u64 b)] [] 0 n aS
def zL:=cK (gz 303).body 1 0
abbrev jn:=Nat×Int×LD
def lM (cc:ae)(n:Nat)(d:jn->R)(Y:jn->R):jn->R:=fun(b,a,c)=>iL (aG a ↑b) (iL (aL 0 a) (iL (aL a ↑b) (iL (Nat.beq (Int.toNat a) b) (iL (Nat.blt 0 (List.length c)) (iL (aL 0 a) (iL (aL a ↑b) (none) (none)) (none)) (iL (aL 0 a) (iL (aL a ↑b) (iL (List.isEmpty (List.take (b - Int.toNat a) (List.take (Int.toNat a - 0) (List.drop 0 c)))) (Y (b,ag .i64 (a+0),c)) (Y (b,ag .i64 (a+ ↑(List.length (List.take (b - Int.toNat a) (List.take (Int.toNat a - 0) (List.drop 0 c))))),splice c (0+Int.toNat a) (List.take (b - Int.toNat a) (List.take (Int.toNat a - 0) (List.drop 0 c)))))) (none)) (none))) (iL (aL 0 a) (iL (aL a ↑b) (iL (List.isEmpty (List.take (b - Int.toNat a) (List.take (Int.toNat a - 0) (List.drop 0 c)))) (Y (b,ag .i64 (a+0),c)) (Y (b,ag .i64 (a+ ↑(List.length (List.take (b - Int.toNat a) (List.take (Int.toNat a - 0) (List.drop 0 c))))),splice c (0+Int.toNat a) (List.take (b - Int.toNat a) (List.take (Int.toNat a - 0) (List.drop 0 c)))))) (none)) (none))) (none)) (none)) (d (b,a,c))
def Au:Rd f9 jn:= .tl<| .t 7 (.Ar 0 1)<| .i 8<| .h (.c .Oa .n)
def BR (J:JJ):=lM cc n (fun(a,b,c)=>J (.exit 0) (.cons 7 (.arr 0 0 a 1)<|tI 8 b<|tB 37 false .nil) [.arr c])
def qf:dT:=jS 109223 Au (BR cc n) eD
def Ae {cc call}(hc:bO cc call)(n):bt (qf cc n) call n 0 (109223,[7,8],zL,true):=eo aS hc aV
def xb (b:LD)(c:Int):R:=iL (aG c 0) (none) (cc 348 [.p (.int .u64 (ag .u64 ↑b.length)),.p (.int .u64 (ag .u64 c))] [] fun d m=>ff d fun o=>ab o fun e p=>dP e fun s=>ba .u64 s fun g=>ab p fun f q=>dP f fun r=>ba .u64 r fun a=>af q<|af m<|iL (aG 0 g) (none) (iL (aG 9223372036854775807 a) (none) (iL (aL 0 (ag .i64 a)&&aL (ag .i64 a) (ag .i64 a)&&Nat.ble (Int.toNat (ag .i64 a)*8) 281474976710656&&aL (ag .i64 a) 9223372036854775807) (iL (List.isEmpty (List.take (Int.toNat (ag .i64 a)) b)) (itL (lM cc n (fun(j,t,h)=>some (pL 1 (List.take j (List.drop 0 h)),[]))) n (Int.toNat (ag .i64 a),0,List.replicate (Int.toNat (ag .i64 a)) (Da.int .i64 0))) (itL (lM cc n (fun(l,u,i)=>some (pL 1 (List.take l (List.drop 0 i)),[]))) n (Int.toNat (ag .i64 a),↑(List.length (List.take (Int.toNat (ag .i64 a)) b)),splice (List.replicate (Int.toNat (ag .i64 a)) (Da.int .i64 0)) 0 (List.take (Int.toNat (ag .i64 a)) b)))) (none))))
def JM (n:Nat)(a:LD)(b:Int):=Š (fun cc=>xb cc n a b) 303 [pL 1 a,pI b] [] 0 n aS (fun cc=>qf cc n) (fun hc=>bC (Ae hc n) aV)
end
end Go.Ab
