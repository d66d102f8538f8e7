import Derived.Test.YtbgddkffhndjcaaGreatDoorDcA
import Derived.Test.YtbgddkffhndjcaaGreatDoorAwZ
import Derived.KernelRfl
set_option linter.all false
namespace Go.Ab
open Go
set_option maxRecDepth 100000
noncomputable section
variable (cc:ab)(n:Nat)
def Jv (cc:ab)(n:Nat)(a:Int):R:=iL (aS 48 a) (iL (aS a 57) rT rF) rF
def Yv (n:Nat)(a:Int):=dA (fun cc=>Jv cc n a) 69 [.p (.int .u8 a)] [] 0 n be
def qe (a:Int):R:=iL (aS 65 a) (iL (aS a 90) rT (iL (eqI a 95) rT rF)) (iL (eqI a 95) rT rF)
def D7 (cc:ab)(n:Nat)(a:Int):R:=iL (aS 97 a) (iL (aS a 122) rT (qe a)) (qe a)
def UN (n:Nat)(a:Int):=dA (fun cc=>D7 cc n a) 78 [.p (.int .u8 a)] [] 0 n be
def Jw (cc:ab)(n:Nat)(a:Int):R:=iL (aS 32 a) (iL (aS a 126) (iL (!eqI a 34) (iL (!eqI a 92) rT rF) rF) rF) rF
def Yw (n:Nat)(a:Int):=dA (fun cc=>Jw cc n a) 91 [.p (.int .u8 a)] [] 0 n be
def Jz (n:Nat)(a:Int):R:=cc 78 [.p (.int .u8 a)] [] fun d f=>dP d fun h=>af h fun b=>ag f<|iL b rT (cc 69 [.p (.int .u8 a)] [] fun e g=>dP e fun i=>af i fun c=>ag g<|iL c rT rF)
def Yz (n:Nat)(a:Int):=dA (fun cc=>Jz cc n a) 79 [.p (.int .u8 a)] [] 0 n be
def PY:=b6 (fc 67).body 1 0
abbrev wg:=LN×Int
def nu (n:Nat)(c:(LN)×Int->R)(Y:wg->R):wg->R:=fun(b,a)=>iL (aO a ↑b.length) (cL (bif aS 0 a then b[Int.toNat a]? else none) fun f=>cc 79 [.p (.int .u8 (Int.ofNat f))] [] fun e g=>dP e fun h=>af h fun d=>ag g<|iL d (Y (b,ae .i64 (a+1))) (c (b,a))) (c (b,a))
def Qz:Rd eQ wg:= .tl<| .s 0<| .v 1 (.P (.FP 79 .n))<| .i 5<| .h .n
def Uo (J:JJ):=nu cc n (fun(a,b)=>J (.exit 0) (tS 0 a<| .cons 1 (.p (.fn 79 []))<|tI 5 b<|tB 16 false .nil) [])
def CJ:df:=gH 423 Qz (Uo cc n) cw
def Qf {cc call}(hc:bA cc call)(n):bk (CJ cc n) call n 0 (423,[0,1,5],PY,true):=cu be hc aA
def Rp (s:LN):R:=itL (nu cc n (fun(b,a)=>some (pI a,[]))) n (s,0)
def Ÿ (n:Nat)(s:LN):=iC (fun cc=>Rp cc n s) 67 [pS s,.p (.fn 79 [])] [] 0 n be (fun cc=>CJ cc n) (fun hc=>bj (Qf hc n) aA)
def PW:=b6 (fc 67).body 1 0
abbrev wd:=LN×Int
def nr (n:Nat)(c:(LN)×Int->R)(Y:wd->R):wd->R:=fun(b,a)=>iL (aO a ↑b.length) (cL (bif aS 0 a then b[Int.toNat a]? else none) fun f=>cc 69 [.p (.int .u8 (Int.ofNat f))] [] fun e g=>dP e fun h=>af h fun d=>ag g<|iL d (Y (b,ae .i64 (a+1))) (c (b,a))) (c (b,a))
def Qx:Rd eQ wd:= .tl<| .s 0<| .v 1 (.P (.FP 69 .n))<| .i 5<| .h .n
def Um (J:JJ):=nr cc n (fun(a,b)=>J (.exit 0) (tS 0 a<| .cons 1 (.p (.fn 69 []))<|tI 5 b<|tB 16 false .nil) [])
def CH:df:=gH 423 Qx (Um cc n) cw
def Qd {cc call}(hc:bA cc call)(n):bk (CH cc n) call n 0 (423,[0,1,5],PW,true):=cu be hc aA
def Rn (s:LN):R:=itL (nr cc n (fun(b,a)=>some (pI a,[]))) n (s,0)
def Ŷ (n:Nat)(s:LN):=iC (fun cc=>Rn cc n s) 67 [pS s,.p (.fn 69 [])] [] 0 n be (fun cc=>CH cc n) (fun hc=>bj (Qd hc n) aA)
def PX:=b6 (fc 67).body 1 0
abbrev we:=LN×Int
def nt (n:Nat)(c:(LN)×Int->R)(Y:we->R):we->R:=fun(b,a)=>iL (aO a ↑b.length) (cL (bif aS 0 a then b[Int.toNat a]? else none) fun f=>cc 68 [.p (.int .u8 (Int.ofNat f))] [] fun e g=>dP e fun h=>af h fun d=>ag g<|iL d (Y (b,ae .i64 (a+1))) (c (b,a))) (c (b,a))
def Qy:Rd eQ we:= .tl<| .s 0<| .v 1 (.P (.FP 68 .n))<| .i 5<| .h .n
def Un (J:JJ):=nt cc n (fun(a,b)=>J (.exit 0) (tS 0 a<| .cons 1 (.p (.fn 68 []))<|tI 5 b<|tB 16 false .nil) [])
def CI:df:=gH 423 Qy (Un cc n) cw
def Qe {cc call}(hc:bA cc call)(n):bk (CI cc n) call n 0 (423,[0,1,5],PX,true):=cu be hc aA
def Ro (s:LN):R:=itL (nt cc n (fun(b,a)=>some (pI a,[]))) n (s,0)
def ŷ (n:Nat)(s:LN):=iC (fun cc=>Ro cc n s) 67 [pS s,.p (.fn 68 [])] [] 0 n be (fun cc=>CI cc n) (fun hc=>bj (Qe hc n) aA)
def Rt (n:Nat)(a:LN):R:=iL (bv a []) (some (pI 0,[])) (cL (bif aS 0 0 then a[Int.toNat 0]? else none) fun f=>cc 78 [.p (.int .u8 (Int.ofNat f))] [] fun c g=>dP c fun i=>af i fun b=>ag g<|iL b (cc 67 [pS a,.p (.fn 79 [])] [] fun d h=>dP d fun j=>aP .i64 j fun e=>ag h<|some (pI e,[])) (some (pI 0,[])))
def Ż (n:Nat)(a:LN):=dA (fun cc=>Rt cc n a) 46 [pS a] [] 0 n be
def t6 (cc:ab)(n:Nat)(a:LN):R:=iL (bv a [97,99,116,111,114]) rT (iL (bv a [115,116,97,116,101]) rT (iL (bv a [109,101,116,104,111,100]) rT (iL (bv a [108,101,116]) rT (iL (bv a [105,102]) rT (iL (bv a [101,108,115,101]) rT (iL (bv a [119,104,105,108,101]) rT (iL (bv a [114,101,116,117,114,110]) rT (iL (bv a [102,97,105,108]) rT (iL (bv a [99,97,108,108]) rT (iL (bv a [101,109,105,116]) rT (iL (bv a [114,101,109,105,110,100]) rT (iL (bv a [99,97,110,99,101,108]) rT (iL (bv a [115,101,108,102]) rT (iL (bv a [116,114,117,101]) rT (iL (bv a [102,97,108,115,101]) rT (iL (bv a [105,110,116]) rT (iL (bv a [98,111,111,108]) rT (iL (bv a [115,116,114,105,110,103]) rT (iL (bv a [105,110,116,115]) rT (iL (bv a [115,116,114,105,110,103,115]) rT rF))))))))))))))))))))
def F7 (n:Nat)(a:LN):=dA (fun cc=>t6 cc n a) 47 [pS a] [] 0 n be
def wa (n:Nat)(a:LN):R:=iL (!bv a []) (iL (aS (↑a.length) 32) (cc 46 [pS a] [] fun c f=>dP c fun h=>aP .i64 h fun e=>ag f<|iL (eqI e ↑a.length) (cc 47 [pS a] [] fun d g=>dP d fun i=>af i fun b=>ag g<|iL b rF rT) rF) rF) rF
def UK (n:Nat)(a:LN):=dA (fun cc=>wa cc n a) 16 [pS a] [] 0 n be
def tX (n:Nat)(d:LN)(e:LN):R:=cc 96 [pS d,pS e] [] fun b c=>dP b fun f=>af f fun a=>ag c<|iL a rT rF
def F5 (n:Nat)(a:LN)(b:LN):=dA (fun cc=>tX cc n a b) 66 [pS a,pS b] [] 0 n be
def rQ (cc:ab)(n:Nat)(b:LN)(a:LN):R:=iL (aS ↑a.length ↑b.length) (iL (aS ↑a.length ↑b.length) (iL (bv (List.take (Int.toNat ↑a.length - 0) (List.drop 0 b)) a) rT rF) (none)) rF
def Dn (n:Nat)(a:LN)(b:LN):=dA (fun cc=>rQ cc n a b) 96 [pS a,pS b] [] 0 n be
def tZ (n:Nat)(d:LN)(e:Int):R:=cc 95 [pS d,.p (.int .u8 e)] [] fun a c=>dP a fun f=>aP .i64 f fun b=>ag c<|some (pI b,[])
def F6 (n:Nat)(a:LN)(b:Int):=dA (fun cc=>tZ cc n a b) 65 [pS a,.p (.int .u8 b)] [] 0 n be
def Hd:=b6 (fc 72).body 1 0
abbrev qa:=LN×LN×LN×LN×LN×LN×LN×Int
def qm (n:Nat)(l:R)(m:(LN)×(LN)×(LN)×(LN)×(LN)×(LN)×(LN)×Int×Bool->R)(Y:qa->R):qa->R:=fun(b,c,d,e,f,g,h,a)=>iL (aO a 6) (iL (aS 0 a) (iL (aO a ↑6) (cL ([Da.str c,Da.str d,Da.str e,Da.str f,Da.str g,Da.str h][Int.toNat a]?) fun r=>dm r fun p=>cc 66 [pS b,pS p] [] fun j o=>dP j fun q=>af q fun i=>ag o<|iL i (l) (Y (b,c,d,e,f,g,h,ae .i64 (a+1)))) (none)) (none)) (m (b,c,d,e,f,g,h,a,aO a 6))
def Ib:Rd eQ qa:= .tl<| .s 0<| .t 5 (.P (.G (.gs<| .gs<| .gs<| .gs<| .gs<| .gs .n)))<| .i 6<| .h .n
def JQ (J:JJ):=qm cc n (J .ret (tI 2 2 .nil) []) (fun(a,b,c,d,e,f,g,h,i)=>J (.exit 0) (tS 0 a<| .cons 5 (.p (.agg [(.str b),(.str c),(.str d),(.str e),(.str f),(.str g)]))<|tI 6 h<|tB 7 i .nil) [])
def vP:df:=gH 411 Ib (JQ cc n) cw
def HO {cc call}(hc:bA cc call)(n):bk (vP cc n) call n 0 (411,[0,5,6],Hd,true):=cu ao hc aA
def D4 (f:LN):R:=itL (qm cc n (some (pI 2,[])) (fun(a,j,l,m,o,p,q,i,h)=>iL (!bv a []) (cL (bif aS 0 0 then a[Int.toNat 0]? else none) fun d=>cc 65 [pS [123,125,40,41,91,93,44,59,58,46,61,60,62,43,45,42,47,37,33],.p (.int .u8 (Int.ofNat d))] [] fun b e=>dP b fun g=>aP .i64 g fun c=>ag e<|iL (aS 0 c) (some (pI 1,[])) (some (pI 0,[]))) (some (pI 0,[])))) n (f,[61,61],[33,61],[60,61],[62,61],[38,38],[124,124],0)
def UJ (n:Nat)(a:LN):=iC (fun cc=>D4 cc n a) 72 [pS a] [] 0 n ao (fun cc=>vP cc n) (fun hc=>bj (HO hc n) aA)
def xy (n:Nat)(a:LN):R:=iL (!bv a []) (cc 72 [pS a] [] fun b d=>dP b fun e=>aP .i64 e fun c=>ag d<|iL (eqI c ↑a.length) rT rF) rF
def JU (n:Nat)(a:LN):=dA (fun cc=>xy cc n a) 115 [pS a] [] 0 n be
def mF (b:D)(c:List Ob):R:=dP b fun d=>af d fun a=>ag c<|iL a rT rF
def D3 (n:Nat)(a:bx):R:=iL (eqI a.Kind 1) (cc 16 [pS a.Text] [] fun b f=>mF b f) (iL (eqI a.Kind 2) (cc 47 [pS a.Text] [] fun c g=>mF c g) (iL (eqI a.Kind 3) (iL (aS 0 a.Num) rT rF) (iL (eqI a.Kind 4) (iL (aS (↑a.Text.length) 64) rT rF) (iL (eqI a.Kind 5) (cc 115 [pS a.Text] [] fun d e=>mF d e) rF))))
def UI (n:Nat)(a:bx):=dA (fun cc=>D3 cc n a) 99 [.p a.e] [] 0 n be
def D8 (n:Nat)(a:Int):R:=cc 69 [.p (.int .u8 a)] [] fun c d=>dP c fun e=>af e fun b=>ag d<|iL b (some (pI (ae .i64 (ae .u8 (a - 48))),[])) (iL (aS 97 a) (iL (aS a 102) (some (pI (ae .i64 (ae .i64 (ae .u8 (a - 97))+10)),[])) (some (pI (-1),[]))) (some (pI (-1),[])))
def UO (n:Nat)(a:Int):=dA (fun cc=>D8 cc n a) 114 [.p (.int .u8 a)] [] 0 n be
def qd (a:LN)(cc:ab):R:=iL (aO (↑a.length) 4) (some (.tup [.p (.int .u8 0),pI 0],[])) (cL (bif aS 0 1 then a[Int.toNat 1]? else none) fun n=>iL (!eqI (Int.ofNat n) 120) (some (.tup [.p (.int .u8 0),pI 0],[])) (cL (bif aS 0 2 then a[Int.toNat 2]? else none) fun o=>cc 114 [.p (.int .u8 (Int.ofNat o))] [] fun e s=>dP e fun w=>aP .i64 w fun f=>ag s<|iL (aO f 0) (some (.tup [.p (.int .u8 0),pI 0],[])) (cL (bif aS 0 3 then a[Int.toNat 3]? else none) fun j=>cc 114 [.p (.int .u8 (Int.ofNat j))] [] fun b p=>dP b fun t=>aP .i64 t fun g=>ag p<|iL (aO g 0) (some (.tup [.p (.int .u8 0),pI 0],[])) (cL (bif aS 0 2 then a[Int.toNat 2]? else none) fun l=>cc 114 [.p (.int .u8 (Int.ofNat l))] [] fun c q=>dP c fun u=>aP .i64 u fun h=>ag q<|cL (bif aS 0 3 then a[Int.toNat 3]? else none) fun m=>cc 114 [.p (.int .u8 (Int.ofNat m))] [] fun d r=>dP d fun v=>aP .i64 v fun i=>ag r<|some (.tup [.p (.int .u8 (ae .u8 (ae .i64 ↑(BitVec.toNat (BitVec.ofInt (IntKind.bits .i64) (ae .i64 (h*2 ^ min (Int.toNat 4) (IntKind.bits .i64))) ||| BitVec.ofInt (IntKind.bits .i64) i))))),pI 4],[])))))
def D6 (n:Nat)(a:LN):R:=iL (aS 2 ↑a.length) (cL (bif aS 0 1 then a[Int.toNat 1]? else none) fun b=>iL (eqI (Int.ofNat b) 34) (cL (bif aS 0 1 then a[Int.toNat 1]? else none) fun c=>some (.tup [.p (.int .u8 (Int.ofNat c)),pI 2],[])) (cL (bif aS 0 1 then a[Int.toNat 1]? else none) fun d=>iL (eqI (Int.ofNat d) 92) (cL (bif aS 0 1 then a[Int.toNat 1]? else none) fun e=>some (.tup [.p (.int .u8 (Int.ofNat e)),pI 2],[])) (qd a cc))) (qd a cc)
def UM (n:Nat)(a:LN):=dA (fun cc=>D6 cc n a) 98 [pS a] [] 0 n be
def P0:=b6 (fc 71).body 1 0
abbrev wi:=LN×Nat×Int×LN×LD
def jy (n:Nat)(f:Int×Int×Int×(LN)×LD->R)(q:(LN)×Nat×Int×(LN)×LD->R)(Y:wi->R):wi->R:=fun(c,e,b,h,a)=>iL (aO b ↑c.length) (cL (bif aS 0 b then c[Int.toNat b]? else none) fun d=>cc 91 [.p (.int .u8 (Int.ofNat d))] [] fun p s=>dP p fun z=>af z fun j=>ag s<|iL j (iL (Nat.beq e (List.length a)) (iL (cO (List.length a+List.length [Da.int .u8 (Int.ofNat d)]) 1) (Y (c,List.length (a++[Da.int .u8 (Int.ofNat d)]),ae .i64 (b+1),h,a++[Da.int .u8 (Int.ofNat d)])) (none)) (none)) (iL (eqI (Int.ofNat d) 34) (iL (aO 64 ↑e) (f (0,5,0,[],a)) (cL (cX (List.take e (List.drop 0 a))) fun w=>f (ae .i64 (b+1),0,4,w,a))) (iL (eqI (Int.ofNat d) 92) (iL (aS 0 b) (iL (aS b ↑c.length) (cc 98 [pS (List.take (List.length c - Int.toNat b) (List.drop (Int.toNat b) c))] [] fun l r=>aI l fun t=>bP t fun m u=>dP m fun x=>aP .u8 x fun g=>bP u fun o v=>dP o fun y=>aP .i64 y fun i=>ag v<|ag r<|iL (eqI i 0) (f (0,13,0,[],a)) (iL (Nat.beq e (List.length a)) (iL (cO (List.length a+List.length [Da.int .u8 g]) 1) (Y (c,List.length (a++[Da.int .u8 g]),ae .i64 (b+i),h,a++[Da.int .u8 g])) (none)) (none))) (none)) (none)) (f (0,13,0,[],a))))) (q (c,e,b,h,a))
def QB:Rd eQ wi:= .tl<| .s 0<| .o 2 0<| .t 5 (.Ar 1 1)<| .i 6<| .h (.c (.Ob (.u (.P (.K .i64 0))<| .cs<| .u (.P (.K .i64 0))<| .u (.P (.K .i64 0)) .n)) (.c .Oa .n))
def Uq (J:JJ):=jy cc n (fun(a,b,c,d,e)=>J .ret (tO 2 0<|tI 3 a<|tI 4 b .nil) [.box [pI c,pS d,pI 0,pI 0],.arr e]) (fun(a,b,c,d,e)=>J (.exit 0) (tS 0 a<|tO 2 0<| .cons 5 (.arr 1 0 b 1)<|tI 6 c<|tB 13 false .nil) [.box [pI 0,pS d,pI 0,pI 0],.arr e])
def CL:df:=gH 6767 QB (Uq cc n) cw
def Qh {cc call}(hc:bA cc call)(n):bk (CL cc n) call n 0 (6767,[0,2,5,6],P0,true):=cu be hc aA
def Rr (d:LN):R:=itL (jy cc n (fun(a,b,c,e,g)=>some (.tup [.p (.agg [.int .i64 c,.str e,.int .i64 0,.int .i64 0]),pI a,pI b],[])) (fun(j,i,f,l,h)=>some (.tup [.p (.agg [.int .i64 0,.str [],.int .i64 0,.int .i64 0]),pI 0,pI 13],[]))) n (d,0,1,[],[])
def ź (n:Nat)(a:LN):=iC (fun cc=>Rr cc n a) 71 [pS a] [] 0 n be (fun cc=>CL cc n) (fun hc=>bj (Qh hc n) aA)
def qf (a:Int)(b:LN)(c:Int):R:=iL (aS 0 a) (iL (aS a ↑b.length) (some (.tup [.p (.agg [.int .i64 3,.str (List.take (Int.toNat a - 0) (List.drop 0 b)),.int .i64 c,.int .i64 0]),pI a,pI 0],[])) (none)) (none)
def qg:R:=some (.tup [.p (.agg [.int .i64 0,.str [],.int .i64 0,.int .i64 0]),pI 0,pI 13],[])
def D9 (n:Nat)(b:LN):R:=cc 67 [pS b,.p (.fn 69 [])] [] fun f i=>dP f fun q=>aP .i64 q fun a=>ag i<|iL (aS 0 a) (iL (aS a ↑b.length) (cc 97 [pS (List.take (Int.toNat a - 0) (List.drop 0 b)),pI 10,pI 64] [] fun g j=>aI g fun m=>bP m fun d o=>bP o fun c l=>ag l<|ag j<|iL (a_ c) (dk (.p .nilif) c<|dP d fun p=>aP .i64 p fun e=>iL (aO 1 a) (cL (bif aS 0 0 then b[Int.toNat 0]? else none) fun h=>iL (eqI (Int.ofNat h) 48) (qg) (qf a b e)) (qf a b e)) (dk (.iface 149 .junk) c<|dk .junk d<|qg)) (none)) (none)
def UP (n:Nat)(a:LN):=dA (fun cc=>D9 cc n a) 70 [pS a] [] 0 n be
def sA (a:D)(g:List Ob):R:=aI a fun h=>bP h fun b i=>dP b fun n=>aQ n fun m=>bP i fun c j=>dP c fun o=>aP .i64 o fun e=>bP j fun d l=>dP d fun p=>aP .i64 p fun f=>ag l<|ag g<|some (.tup [.p m.e,pI e,pI f],[])
def Jy (n:Nat)(a:LN):R:=cc 46 [pS a] [] fun f r=>dP f fun w=>aP .i64 w fun b=>ag r<|iL (aO 0 b) (iL (aO 32 b) (some (.tup [.p (.agg [.int .i64 0,.str [],.int .i64 0,.int .i64 0]),pI 0,pI 5],[])) (iL (aS 0 b) (iL (aS b ↑a.length) (cc 47 [pS (List.take (Int.toNat b - 0) (List.drop 0 a))] [] fun l u=>dP l fun y=>af y fun e=>ag u<|iL e (iL (aS 0 b) (iL (aS b ↑a.length) (some (.tup [.p (.agg [.int .i64 2,.str (List.take (Int.toNat b - 0) (List.drop 0 a)),.int .i64 0,.int .i64 0]),pI b,pI 0],[])) (none)) (none)) (iL (aS 0 b) (iL (aS b ↑a.length) (some (.tup [.p (.agg [.int .i64 1,.str (List.take (Int.toNat b - 0) (List.drop 0 a)),.int .i64 0,.int .i64 0]),pI b,pI 0],[])) (none)) (none))) (none)) (none))) (cL (bif aS 0 0 then a[Int.toNat 0]? else none) fun o=>cc 69 [.p (.int .u8 (Int.ofNat o))] [] fun g p=>dP g fun v=>af v fun d=>ag p<|iL d (cc 70 [pS a] [] fun h q=>sA h q) (cL (bif aS 0 0 then a[Int.toNat 0]? else none) fun m=>iL (eqI (Int.ofNat m) 34) (cc 71 [pS a] [] fun i s=>sA i s) (cc 72 [pS a] [] fun j t=>dP j fun x=>aP .i64 x fun c=>ag t<|iL (eqI c 0) (some (.tup [.p (.agg [.int .i64 0,.str [],.int .i64 0,.int .i64 0]),pI 0,pI 13],[])) (iL (aS 0 c) (iL (aS c ↑a.length) (some (.tup [.p (.agg [.int .i64 5,.str (List.take (Int.toNat c - 0) (List.drop 0 a)),.int .i64 0,.int .i64 0]),pI c,pI 0],[])) (none)) (none)))))
def Yy (n:Nat)(a:LN):=dA (fun cc=>Jy cc n a) 41 [pS a] [] 0 n be
def PZ:=b6 (fc 40).body 1 0
abbrev wh:=LN×Int
def ls (n:Nat)(i:Int->R)(j:(LN)×Int->R)(Y:wh->R):wh->R:=fun(b,a)=>iL (aO a ↑b.length) (cL (bif aS 0 a then b[Int.toNat a]? else none) fun l=>cc 65 [pS [32,9,10,13],.p (.int .u8 (Int.ofNat l))] [] fun e o=>dP e fun s=>aP .i64 s fun h=>ag o<|iL (aS 0 h) (Y (b,ae .i64 (a+1))) (iL (aS 0 a) (iL (aS a ↑b.length) (cc 66 [pS (List.take (List.length b - Int.toNat a) (List.drop (Int.toNat a) b)),pS [47,47]] [] fun f p=>dP f fun q=>af q fun c=>ag p<|iL c (iL (aS 0 a) (iL (aS a ↑b.length) (cc 67 [pS (List.take (List.length b - Int.toNat a) (List.drop (Int.toNat a) b)),.p (.fn 68 [])] [] fun d m=>dP d fun r=>aP .i64 r fun g=>ag m<|Y (b,ae .i64 (a+g))) (none)) (none)) (i a)) (none)) (none))) (j (b,a))
def QA:Rd eQ wh:= .tl<| .s 0<| .i 3<| .h .n
def Up (J:JJ):=ls cc n (fun a=>J .ret (tI 2 a .nil) []) (fun(a,b)=>J (.exit 0) (tS 0 a<|tI 3 b<|tB 7 false .nil) [])
def CK:df:=gH 423 QA (Up cc n) cw
def Qg {cc call}(hc:bA cc call)(n):bk (CK cc n) call n 0 (423,[0,3],PZ,true):=cu be hc aA
def Rq (c:LN):R:=itL (ls cc n (fun a=>some (pI a,[])) (fun(d,b)=>some (pI b,[]))) n (c,0)
def Ź (n:Nat)(a:LN):=iC (fun cc=>Rq cc n a) 40 [pS a] [] 0 n be (fun cc=>CK cc n) (fun hc=>bj (Qg hc n) aA)
def He:=b6 (fc 13).body 1 0
abbrev qb:=LN×Nat×Int×LD
def ij (n:Nat)(p:Int×Int×LD×bx->R)(q:(LN)×Nat×Int×LD->R)(Y:qb->R):qb->R:=fun(c,g,a,d)=>iL (aO a ↑c.length) (iL (aS 0 a) (iL (aS a ↑c.length) (cc 41 [pS (List.take (List.length c - Int.toNat a) (List.drop (Int.toNat a) c))] [] fun m r=>aI m fun t=>bP t fun h u=>dP h fun x=>aQ x fun b=>bP u fun i v=>dP i fun y=>aP .i64 y fun e=>bP v fun j w=>dP j fun z=>aP .i64 z fun f=>ag w<|ag r<|iL (!eqI f 0) (p (a,f,d,b)) (iL (Nat.beq g (List.length d)) (iL (cO (List.length d+List.length [Da.agg [Da.int .i64 b.Kind,Da.str b.Text,Da.int .i64 b.Num,Da.int .i64 a]]) 40) (iL (aS 0 (ae .i64 (a+e))) (iL (aS (ae .i64 (a+e)) ↑c.length) (cc 40 [pS (List.take (List.length c - Int.toNat (ae .i64 (a+e))) (List.drop (Int.toNat (ae .i64 (a+e))) c))] [] fun l s=>dP l fun A=>aP .i64 A fun o=>ag s<|Y (c,List.length (d++[Da.agg [Da.int .i64 b.Kind,Da.str b.Text,Da.int .i64 b.Num,Da.int .i64 a]]),ae .i64 (ae .i64 (a+e)+o),d++[Da.agg [Da.int .i64 b.Kind,Da.str b.Text,Da.int .i64 b.Num,Da.int .i64 a]])) (none)) (none)) (none)) (none))) (none)) (none)) (q (c,g,a,d))
def Ic:Rd eQ qb:= .tl<| .s 0<| .t 2 (.Ar 0 4)<| .i 5<| .h (.c .Oa .n)
def JR (J:JJ):=ij cc n (fun(a,b,c,d)=>J .ret (.cons 2 (.sl F8.nil 4 [])<|tI 3 a<|tI 4 b .nil) [.arr c,d.b]) (fun(a,b,c,d)=>J (.exit 0) (tS 0 a<| .cons 2 (.arr 0 0 b 4)<|tI 5 c<|tB 17 false .nil) [.arr d])
def vQ:df:=gH 6767 Ic (JR cc n) cw
def HP {cc call}(hc:bA cc call)(n):bk (vQ cc n) call n 0 (6767,[0,2,5],He,true):=cu be hc aA
def D5 (a:LN):R:=iL (aO 6000 ↑a.length) (some (.tup [pL 4 [],pI 0,pI 5],[])) (cc 40 [pS a] [] fun b h=>dP b fun i=>aP .i64 i fun e=>ag h<|itL (ij cc n (fun(c,d,l,o)=>some (.tup [pL 4 [],pI c,pI d],[])) (fun(m,g,j,f)=>some (.tup [pL 4 (List.take g (List.drop 0 f)),pI 0,pI 0],[]))) n (a,0,e,[]))
def UL (n:Nat)(a:LN):=iC (fun cc=>D5 cc n a) 13 [pS a] [] 0 n be (fun cc=>vQ cc n) (fun hc=>bj (HP hc n) aA)
def Je (cc:ab)(n:Nat)(c:bE)(e:Int):R:=iL (!eqI c.er 0) (some (.tup [],c.hp)) (iL (aO c.ps ↑c.tk.length) (cL (cp c.tk c.ps) fun b=>aQ b fun a=>some (.tup [],({c with aT:=a.At,er:=e}:bE).hp)) (some (.tup [],({c with aT:=c.en,er:=e}:bE).hp)))
def Ye (n:Nat)(c:bE)(e:Int):=dA (fun cc=>Je cc n c e) 44 [.box 0 0,pI e] c.hp 2 n ao
def Jf (cc:ab)(n:Nat)(c:cg)(e:Int):R:=iL (!eqI c.er 0) (some (.tup [],c.hp)) (iL (aO c.ps ↑c.tk.length) (cL (cp c.tk c.ps) fun b=>aQ b fun a=>some (.tup [],({c with aT:=a.At,er:=e}:cg).hp)) (some (.tup [],({c with aT:=c.en,er:=e}:cg).hp)))
def Yf (n:Nat)(c:cg)(e:Int):=dA (fun cc=>Jf cc n c e) 44 [.box 0 0,pI e] c.hp 1 n ao
def Jq (n:Nat)(c:bE)(i:Int):R:=cc 42 [.box 0 0] c.hp fun e g=>dP e fun p=>af p fun d=>aq g fun a=>iL (!d) (some (.p (.agg [.int .i64 0,.str [],.int .i64 0,.int .i64 0]),a.hp)) (iL (aS (↑a.tk.length) (ae .i64 (a.ps+i))) (some (.p (.agg [.int .i64 0,.str [],.int .i64 0,.int .i64 0]),a.hp)) (cL (cp a.tk (ae .i64 (a.ps+i))) fun q=>aQ q fun l=>cc 99 [.p l.e] [] fun f h=>dP f fun m=>af m fun b=>ag h<|iL (!b) (some (.p (.agg [.int .i64 0,.str [],.int .i64 0,.int .i64 0]),a.hp)) (cL (cp a.tk (ae .i64 (a.ps+i))) fun o=>aQ o fun j=>some (.p j.e,a.hp))))
def Yp (n:Nat)(c:bE)(i:Int):=dA (fun cc=>Jq cc n c i) 73 [.box 0 0,pI i] c.hp 2 n ao
def Jr (n:Nat)(c:cg)(i:Int):R:=cc 42 [.box 0 0] c.hp fun e g=>dP e fun p=>af p fun d=>aR g fun a=>iL (!d) (some (.p (.agg [.int .i64 0,.str [],.int .i64 0,.int .i64 0]),a.hp)) (iL (aS (↑a.tk.length) (ae .i64 (a.ps+i))) (some (.p (.agg [.int .i64 0,.str [],.int .i64 0,.int .i64 0]),a.hp)) (cL (cp a.tk (ae .i64 (a.ps+i))) fun q=>aQ q fun l=>cc 99 [.p l.e] [] fun f h=>dP f fun m=>af m fun b=>ag h<|iL (!b) (some (.p (.agg [.int .i64 0,.str [],.int .i64 0,.int .i64 0]),a.hp)) (cL (cp a.tk (ae .i64 (a.ps+i))) fun o=>aQ o fun j=>some (.p j.e,a.hp))))
def Yq (n:Nat)(c:cg)(i:Int):=dA (fun cc=>Jr cc n c i) 73 [.box 0 0,pI i] c.hp 1 n ao
def XL (n:Nat)(c:bE)(s:LN):R:=cc 73 [.box 0 0,pI 0] c.hp fun d e=>dP d fun f=>aQ f fun a=>aq e fun b=>iL (eqI a.Kind 2) (some (pB (bv a.Text s),b.hp)) (iL (eqI a.Kind 5) (some (pB (bv a.Text s),b.hp)) (some (pB false,b.hp)))
def abx (n:Nat)(c:bE)(s:LN):=dA (fun cc=>XL cc n c s) 43 [.box 0 0,pS s] c.hp 2 n ao
def XM (n:Nat)(c:cg)(s:LN):R:=cc 73 [.box 0 0,pI 0] c.hp fun d e=>dP d fun f=>aQ f fun a=>aR e fun b=>iL (eqI a.Kind 2) (some (pB (bv a.Text s),b.hp)) (iL (eqI a.Kind 5) (some (pB (bv a.Text s),b.hp)) (some (pB false,b.hp)))
def aby (n:Nat)(c:cg)(s:LN):=dA (fun cc=>XM cc n c s) 43 [.box 0 0,pS s] c.hp 1 n ao
def zU (n:Nat)(c:bE)(s:LN):R:=cc 43 [.box 0 0,pS s] c.hp fun d e=>dP d fun f=>af f fun b=>aq e fun a=>iL (!b) (some (pB false,a.hp)) (some (pB true,({a with ps:=(ae .i64 (a.ps+1))}:bE).hp))
def OK (n:Nat)(c:bE)(s:LN):=dA (fun cc=>zU cc n c s) 100 [.box 0 0,pS s] c.hp 2 n ao
def zV (n:Nat)(c:cg)(s:LN):R:=cc 43 [.box 0 0,pS s] c.hp fun d e=>dP d fun f=>af f fun b=>aR e fun a=>iL (!b) (some (pB false,a.hp)) (some (pB true,({a with ps:=(ae .i64 (a.ps+1))}:cg).hp))
def OL (n:Nat)(c:cg)(s:LN):=dA (fun cc=>zV cc n c s) 100 [.box 0 0,pS s] c.hp 1 n ao
def z7 (n:Nat)(c:bE)(s:LN):R:=cc 100 [.box 0 0,pS s] c.hp fun d f=>dP d fun j=>af j fun b=>aq f fun a=>iL (!b) (cc 44 [.box 0 0,pI 13] a.hp fun e g=>aI e fun h=>ag h<|aq g fun i=>some (.tup [],i.hp)) (some (.tup [],a.hp))
def OT (n:Nat)(c:bE)(s:LN):=dA (fun cc=>z7 cc n c s) 74 [.box 0 0,pS s] c.hp 2 n ao
def z8 (n:Nat)(c:cg)(s:LN):R:=cc 100 [.box 0 0,pS s] c.hp fun d f=>dP d fun j=>af j fun b=>aR f fun a=>iL (!b) (cc 44 [.box 0 0,pI 13] a.hp fun e g=>aI e fun h=>ag h<|aR g fun i=>some (.tup [],i.hp)) (some (.tup [],a.hp))
def OU (n:Nat)(c:cg)(s:LN):=dA (fun cc=>z8 cc n c s) 74 [.box 0 0,pS s] c.hp 1 n ao
def Js (n:Nat)(c:bE)(i:Int):R:=cc 73 [.box 0 0,pI 0] c.hp fun d f=>dP d fun l=>aQ l fun b=>aq f fun a=>iL (!eqI b.Kind i) (cc 44 [.box 0 0,pI 13] a.hp fun e g=>aI e fun h=>ag h<|aq g fun j=>some (.p (.agg [.int .i64 0,.str [],.int .i64 0,.int .i64 0]),j.hp)) (some (.p b.e,({a with ps:=(ae .i64 (a.ps+1))}:bE).hp))
def Yr (n:Nat)(c:bE)(i:Int):=dA (fun cc=>Js cc n c i) 101 [.box 0 0,pI i] c.hp 2 n ao
def Jt (n:Nat)(c:cg)(i:Int):R:=cc 73 [.box 0 0,pI 0] c.hp fun d f=>dP d fun l=>aQ l fun b=>aR f fun a=>iL (!eqI b.Kind i) (cc 44 [.box 0 0,pI 13] a.hp fun e g=>aI e fun h=>ag h<|aR g fun j=>some (.p (.agg [.int .i64 0,.str [],.int .i64 0,.int .i64 0]),j.hp)) (some (.p b.e,({a with ps:=(ae .i64 (a.ps+1))}:cg).hp))
def Ys (n:Nat)(c:cg)(i:Int):=dA (fun cc=>Jt cc n c i) 101 [.box 0 0,pI i] c.hp 1 n ao
def Jo (n:Nat)(c:bE):R:=cc 101 [.box 0 0,pI 1] c.hp fun a b=>dP a fun f=>aQ f fun d=>aq b fun e=>some (pS d.Text,e.hp)
def Yn (n:Nat)(c:bE):=dA (fun cc=>Jo cc n c) 75 [.box 0 0] c.hp 2 n ao
def Jp (n:Nat)(c:cg):R:=cc 101 [.box 0 0,pI 1] c.hp fun a b=>dP a fun f=>aQ f fun d=>aR b fun e=>some (pS d.Text,e.hp)
def Yo (n:Nat)(c:cg):=dA (fun cc=>Jp cc n c) 75 [.box 0 0] c.hp 1 n ao
def q5 (cc:ab)(s:LN)(e:bE):R:=cc 74 [.box 0 0,pS s] e.hp fun b c=>aI b fun d=>ag d<|aq c fun a=>some (.tup [],({a with ne:=(ae .i64 (a.ne+1))}:bE).hp)
def Rj (n:Nat)(c:bE)(s:LN):R:=cc 43 [.box 0 0,pS s] c.hp fun d f=>dP d fun j=>af j fun b=>aq f fun a=>iL b (iL (eqI a.ne 24) (cc 44 [.box 0 0,pI 5] a.hp fun e g=>aI e fun h=>ag h<|aq g fun i=>q5 cc s i) (q5 cc s a)) (q5 cc s a)
def Ų (n:Nat)(c:bE)(s:LN):=dA (fun cc=>Rj cc n c s) 121 [.box 0 0,pS s] c.hp 2 n ao
def Jc (n:Nat)(c:bE)(s:LN):R:=cc 74 [.box 0 0,pS s] c.hp fun b d=>aI b fun e=>ag e<|aq d fun a=>some (.tup [],({a with ne:=(ae .i64 (a.ne - 1))}:bE).hp)
def Yc (n:Nat)(c:bE)(s:LN):=dA (fun cc=>Jc cc n c s) 124 [.box 0 0,pS s] c.hp 2 n ao
def XJ (n:Nat)(c:bE)(x:aK):R:=cc 42 [.box 0 0] c.hp fun d e=>dP d fun f=>af f fun b=>aq e fun a=>iL (!b) (some (pI 0,a.hp)) (iL (Nat.beq a.nd (List.length a.no)) (iL (cO (List.length a.no+List.length [Da.agg [Da.int .i64 x.Op,Da.str x.Name,Da.int .i64 x.Value_Kind,Da.int .i64 x.Value_N,Da.str x.Value_S,Da.slice 1 x.Value_I,Da.slice 1 x.Value_L,Da.slice 1 x.Kids]]) 128) (some (pI (ae .i64 (↑(List.length (a.no++[Da.agg [Da.int .i64 x.Op,Da.str x.Name,Da.int .i64 x.Value_Kind,Da.int .i64 x.Value_N,Da.str x.Value_S,Da.slice 1 x.Value_I,Da.slice 1 x.Value_L,Da.slice 1 x.Kids]])) - 1)),({a with nd:=(List.length (a.no++[Da.agg [Da.int .i64 x.Op,Da.str x.Name,Da.int .i64 x.Value_Kind,Da.int .i64 x.Value_N,Da.str x.Value_S,Da.slice 1 x.Value_I,Da.slice 1 x.Value_L,Da.slice 1 x.Kids]])),no:=(a.no++[Da.agg [Da.int .i64 x.Op,Da.str x.Name,Da.int .i64 x.Value_Kind,Da.int .i64 x.Value_N,Da.str x.Value_S,Da.slice 1 x.Value_I,Da.slice 1 x.Value_L,Da.slice 1 x.Kids]])}:bE).hp)) (none)) (none))
def abv (n:Nat)(c:bE)(x:aK):=dA (fun cc=>XJ cc n c x) 123 [.box 0 0,.p x.e] c.hp 1 n ao
def Re (n:Nat)(c:OE)(o:Int)(s:LN)(t:LN)(m:Nat):R:=cc 42 [.box 0 0] (bE.mk c.tk c.ps c.en c.aT c.er c.ne c.tt c.nd c.no).hp fun d e=>dP d fun f=>af f fun b=>aq e fun a=>iL (!b) (some (pI 0,(XW.mk a.tk a.ps a.en a.aT a.er a.ne a.tt a.nd c.kl a.no).hp)) (iL (Nat.beq a.nd (List.length a.no)) (iL (cO (List.length a.no+List.length [Da.agg [Da.int .i64 o,Da.str s,Da.int .i64 0,Da.int .i64 0,Da.str t,Da.slice 1 [],Da.slice 1 [],Da.slice 1 (List.take m (List.drop 0 c.kl))]]) 128) (some (pI (ae .i64 (↑(List.length (a.no++[Da.agg [Da.int .i64 o,Da.str s,Da.int .i64 0,Da.int .i64 0,Da.str t,Da.slice 1 [],Da.slice 1 [],Da.slice 1 (List.take m (List.drop 0 c.kl))]])) - 1)),(XW.mk a.tk a.ps a.en a.aT a.er a.ne a.tt (List.length (a.no++[Da.agg [Da.int .i64 o,Da.str s,Da.int .i64 0,Da.int .i64 0,Da.str t,Da.slice 1 [],Da.slice 1 [],Da.slice 1 (List.take m (List.drop 0 c.kl))]])) c.kl (a.no++[Da.agg [Da.int .i64 o,Da.str s,Da.int .i64 0,Da.int .i64 0,Da.str t,Da.slice 1 [],Da.slice 1 [],Da.slice 1 (List.take m (List.drop 0 c.kl))]])).hp)) (none)) (none))
def ŭ (n:Nat)(c:OE)(o:Int)(s:LN)(t:LN)(m:Nat):=dA (fun cc=>Re cc n c o s t m) 123 [.box 0 0,.agg [pI o,pS s,pI 0,pI 0,pS t,pL 1 [],pL 1 [],.arr 1 0 m 1]] c.hp 2 n ao
def LU:=b6 (fc 102).body 1 0
abbrev sj:=LN×LN×LN×LN×LN×Int×bE
def sC (n:Nat)(l:Int×bE->R)(m:(LN)×(LN)×(LN)×(LN)×(LN)×Int×Bool×bE->R)(Y:sj->R):sj->R:=fun(b,c,d,e,f,a,h)=>iL (aO a 5) (iL (aS 0 a) (iL (aO a ↑5) (cL ([Da.str b,Da.str c,Da.str d,Da.str e,Da.str f][Int.toNat a]?) fun r=>dm r fun p=>cc 100 [.box 0 0,pS p] h.hp fun j o=>dP j fun q=>af q fun i=>aq o fun g=>iL i (l (ae .i64 (a+1),g)) (Y (b,c,d,e,f,ae .i64 (a+1),g))) (none)) (none)) (m (b,c,d,e,f,a,aO a 5,h))
def Nb:Rd eQ sj:= .tl<| .o 0 0<| .t 5 (.P (.G (.gs<| .gs<| .gs<| .gs<| .gs .n)))<| .i 6<| .h r_PsA
def Oq (J:JJ):=sC cc n (fun(a,b)=>J .ret (tI 2 a .nil) b.hp) (fun(a,b,c,d,e,f,g,h)=>J (.exit 0) (tO 0 0<| .cons 5 (.p (.agg [(.str a),(.str b),(.str c),(.str d),(.str e)]))<|tI 6 f<|tB 7 g .nil) h.hp)
def yr:df:=gH 411 Nb (Oq cc n) cw
def MB {cc call}(hc:bA cc call)(n):bk (yr cc n) call n 2 (411,[0,5,6],LU,true):=cu ao hc aA
def Jh (c:bE):R:=itL (sC cc n (fun(b,f)=>some (pI b,f.hp)) (fun(l,m,o,p,q,j,i,g)=>cc 44 [.box 0 0,pI 13] g.hp fun a d=>aI a fun e=>ag e<|aq d fun h=>some (pI 0,h.hp))) n ([105,110,116],[98,111,111,108],[115,116,114,105,110,103],[105,110,116,115],[115,116,114,105,110,103,115],0,c)
def Yh (n:Nat)(c:bE):=iC (fun cc=>Jh cc n c) 102 [.box 0 0] c.hp 2 n ao (fun cc=>yr cc n) (fun hc=>bj (MB hc n) aA)
def LV:=b6 (fc 102).body 1 0
abbrev sk:=LN×LN×LN×LN×LN×Int×cg
def sD (n:Nat)(l:Int×cg->R)(m:(LN)×(LN)×(LN)×(LN)×(LN)×Int×Bool×cg->R)(Y:sk->R):sk->R:=fun(b,c,d,e,f,a,h)=>iL (aO a 5) (iL (aS 0 a) (iL (aO a ↑5) (cL ([Da.str b,Da.str c,Da.str d,Da.str e,Da.str f][Int.toNat a]?) fun r=>dm r fun p=>cc 100 [.box 0 0,pS p] h.hp fun j o=>dP j fun q=>af q fun i=>aR o fun g=>iL i (l (ae .i64 (a+1),g)) (Y (b,c,d,e,f,ae .i64 (a+1),g))) (none)) (none)) (m (b,c,d,e,f,a,aO a 5,h))
def Nc:Rd eQ sk:= .tl<| .o 0 0<| .t 5 (.P (.G (.gs<| .gs<| .gs<| .gs<| .gs .n)))<| .i 6<| .h r_PsB
def Ot (J:JJ):=sD cc n (fun(a,b)=>J .ret (tI 2 a .nil) b.hp) (fun(a,b,c,d,e,f,g,h)=>J (.exit 0) (tO 0 0<| .cons 5 (.p (.agg [(.str a),(.str b),(.str c),(.str d),(.str e)]))<|tI 6 f<|tB 7 g .nil) h.hp)
def yu:df:=gH 411 Nc (Ot cc n) cw
def MC {cc call}(hc:bA cc call)(n):bk (yu cc n) call n 1 (411,[0,5,6],LV,true):=cu ao hc aA
def Ji (c:cg):R:=itL (sD cc n (fun(b,f)=>some (pI b,f.hp)) (fun(l,m,o,p,q,j,i,g)=>cc 44 [.box 0 0,pI 13] g.hp fun a d=>aI a fun e=>ag e<|aR d fun h=>some (pI 0,h.hp))) n ([105,110,116],[98,111,111,108],[115,116,114,105,110,103],[105,110,116,115],[115,116,114,105,110,103,115],0,c)
def Yi (n:Nat)(c:cg):=iC (fun cc=>Ji cc n c) 102 [.box 0 0] c.hp 1 n ao (fun cc=>yu cc n) (fun hc=>bj (MC hc n) aA)
def xz (n:Nat)(c:cg):R:=cc 100 [.box 0 0,pS [45]] c.hp fun d h=>dP d fun q=>af q fun b=>aR h fun a=>iL b (cc 101 [.box 0 0,pI 3] a.hp fun f i=>dP f fun r=>aQ r fun o=>aR i fun j=>some (pI (ae .i64 (0 - o.Num)),j.hp)) (cc 101 [.box 0 0,pI 3] a.hp fun e g=>dP e fun p=>aQ p fun l=>aR g fun m=>some (pI l.Num,m.hp))
def JW (n:Nat)(c:cg):=dA (fun cc=>xz cc n c) 118 [.box 0 0] c.hp 1 n ao
def qc (b:bx)(a:bE):R:=iL (bv b.Text [116,114,117,101]) (iL (bv b.Text [116,114,117,101]) (some (pB true,a.hp)) (some (pB false,a.hp))) (iL (bv b.Text [102,97,108,115,101]) (iL (bv b.Text [102,97,108,115,101]) (some (pB true,a.hp)) (some (pB false,a.hp))) (iL (bv b.Text [115,101,108,102]) (iL (bv b.Text [115,101,108,102]) (some (pB true,a.hp)) (some (pB false,a.hp))) (iL (bv b.Text [105,110,116,115]) (iL (bv b.Text [105,110,116,115]) (some (pB true,a.hp)) (some (pB false,a.hp))) (iL (bv b.Text [115,116,114,105,110,103,115]) (iL (bv b.Text [115,116,114,105,110,103,115]) (some (pB true,a.hp)) (some (pB false,a.hp))) (iL (bv b.Text [40]) (iL (bv b.Text [40]) (some (pB true,a.hp)) (some (pB false,a.hp))) (iL (bv b.Text [45]) (iL (bv b.Text [45]) (some (pB true,a.hp)) (some (pB false,a.hp))) (iL (bv b.Text [33]) (some (pB true,a.hp)) (some (pB false,a.hp)))))))))
def mE (a:bx)(b:bE):R:=iL (eqI a.Kind 2) (iL (eqI a.Kind 2) (qc a b) (some (pB false,b.hp))) (iL (eqI a.Kind 5) (qc a b) (some (pB false,b.hp)))
def DY (n:Nat)(c:bE):R:=cc 73 [.box 0 0,pI 0] c.hp fun d e=>dP d fun f=>aQ f fun a=>aq e fun b=>iL (eqI a.Kind 1) (iL (eqI a.Kind 1) (some (pB true,b.hp)) (mE a b)) (iL (eqI a.Kind 3) (iL (eqI a.Kind 3) (some (pB true,b.hp)) (mE a b)) (iL (eqI a.Kind 4) (some (pB true,b.hp)) (mE a b)))
def UD (n:Nat)(c:bE):=dA (fun cc=>DY cc n c) 153 [.box 0 0] c.hp 2 n ao
def yT:=b6 (fc 155).body 1 0
abbrev lC:=LD×Int×Int×bE
def fQ (n:Nat)(h:Int×bE->R)(i:LD×Int×Int×Bool×bE->R)(Y:lC->R):lC->R:=fun(c,b,a,e)=>iL (aO a b) (cL (cp c a) fun m=>dm m fun l=>cc 100 [.box 0 0,pS l] e.hp fun g j=>dP g fun o=>af o fun f=>aq j fun d=>iL f (h (a,d)) (Y (c,b,ae .i64 (a+1),d))) (i (c,b,a,aO a b,e))
def y6:Rd eQ lC:= .l 0 1<| .v 1 (.F 1000100 (.co 0 .n))<| .i 7<| .i 8<| .h r_PsA
def AD (J:JJ):=fQ cc n (fun(a,b)=>J .ret (tI 4 a .nil) b.hp) (fun(a,b,c,d,e)=>J (.exit 0) (tL 0 1 a<| .cons 1 (.fn 1000100 [(.box 0 0)])<|tI 7 b<|tI 8 c<|tB 9 d .nil) e.hp)
def pJ:df:=gH 411 y6 (AD cc n) cw
def yY {cc call}(hc:bA cc call)(n):bk (pJ cc n) call n 2 (411,[0,1,7,8],yT,true):=cu ao hc aA
def tM (c:bE)(l:LD):R:=itL (fQ cc n (fun(a,b)=>some (pI a,b.hp)) (fun(h,f,g,e,d)=>some (pI (-1),d.hp))) n (l,↑l.length,0,c)
def FW (n:Nat)(c:bE)(l:LD):=iC (fun cc=>tM cc n c l) 155 [pL 1 l,.fn 1000100 [.box 0 0]] c.hp 2 n ao (fun cc=>pJ cc n) (fun hc=>bj (yY hc n) aA)
def Bw:=b6 (fc 146).body 1 0
abbrev mY:=LD×Int×bE
def jM (n:Nat)(j:Int×bE->R)(Y:mY->R):mY->R:=fun(a,c,s)=>cc 155 [pL 1 a,.fn 1000100 [.box 0 0]] s.hp fun g l=>dP g fun t=>aP .i64 t fun b=>aq l fun d=>iL (aO b 0) (j (c,d)) (cc 147 [.box 0 0] d.hp fun e m=>dP e fun u=>aP .i64 u fun h=>aq m fun q=>cL (cp a b) fun v=>dm v fun p=>cc 123 [.box 0 0,.p (.agg [.int .i64 5,.str p,.int .i64 0,.int .i64 0,.str [],.slice 1 [],.slice 1 [],.slice 1 [Da.int .i64 c,Da.int .i64 h]])] q.hp fun f o=>dP f fun w=>aP .i64 w fun i=>aq o fun r=>Y (a,i,r))
def Cf:Rd eQ mY:= .o 0 0<| .v 1 (.F 1000147 (.co 0 .n))<| .l 2 1<| .i 7<| .h r_PsA
def Db (J:JJ):=jM cc n (fun(a,b)=>J .ret (tI 6 a .nil) b.hp)
def qQ:df:=gH 107 Cf (Db cc n) cw
def BX {cc call}(hc:bA cc call)(n):bk (qQ cc n) call n 1 (107,[0,1,2,7],Bw,true):=cu ao hc aA
def xB (c:bE):R:=cc 147 [.box 0 0] c.hp fun a e=>dP a fun h=>aP .i64 h fun d=>aq e fun g=>itL (jM cc n (fun(b,f)=>some (pI b,f.hp))) n ([Da.str [124,124]],d,g)
def JZ (n:Nat)(c:bE):=iC (fun cc=>xB cc n c) 146 [.box 0 0,.fn 1000147 [.box 0 0],pL 1 [.str [124,124]]] c.hp 1 n ao (fun cc=>qQ cc n) (fun hc=>bj (BX hc n) aA)
def Ds:=b6 (fc 146).body 1 0
abbrev om:=LD×Int×bE
def kZ (n:Nat)(j:Int×bE->R)(Y:om->R):om->R:=fun(a,c,s)=>cc 155 [pL 1 a,.fn 1000100 [.box 0 0]] s.hp fun g l=>dP g fun t=>aP .i64 t fun b=>aq l fun d=>iL (aO b 0) (j (c,d)) (cc 156 [.box 0 0] d.hp fun e m=>dP e fun u=>aP .i64 u fun h=>aq m fun q=>cL (cp a b) fun v=>dm v fun p=>cc 123 [.box 0 0,.p (.agg [.int .i64 5,.str p,.int .i64 0,.int .i64 0,.str [],.slice 1 [],.slice 1 [],.slice 1 [Da.int .i64 c,Da.int .i64 h]])] q.hp fun f o=>dP f fun w=>aP .i64 w fun i=>aq o fun r=>Y (a,i,r))
def DD:Rd eQ om:= .o 0 0<| .v 1 (.F 1000156 (.co 0 .n))<| .l 2 1<| .i 7<| .h r_PsA
def FN (J:JJ):=kZ cc n (fun(a,b)=>J .ret (tI 6 a .nil) b.hp)
def se:df:=gH 107 DD (FN cc n) cw
def Dw {cc call}(hc:bA cc call)(n):bk (se cc n) call n 1 (107,[0,1,2,7],Ds,true):=cu ao hc aA
def Aa (c:bE):R:=cc 156 [.box 0 0] c.hp fun a e=>dP a fun h=>aP .i64 h fun d=>aq e fun g=>itL (kZ cc n (fun(b,f)=>some (pI b,f.hp))) n ([Da.str [38,38]],d,g)
def OV (n:Nat)(c:bE):=iC (fun cc=>Aa cc n c) 146 [.box 0 0,.fn 1000156 [.box 0 0],pL 1 [.str [38,38]]] c.hp 1 n ao (fun cc=>se cc n) (fun hc=>bj (Dw hc n) aA)
def Bz:=b6 (fc 146).body 1 0
abbrev mZ:=LD×Int×bE
def jN (n:Nat)(j:Int×bE->R)(Y:mZ->R):mZ->R:=fun(a,c,s)=>cc 155 [pL 1 a,.fn 1000100 [.box 0 0]] s.hp fun g l=>dP g fun t=>aP .i64 t fun b=>aq l fun d=>iL (aO b 0) (j (c,d)) (cc 160 [.box 0 0] d.hp fun e m=>dP e fun u=>aP .i64 u fun h=>aq m fun q=>cL (cp a b) fun v=>dm v fun p=>cc 123 [.box 0 0,.p (.agg [.int .i64 5,.str p,.int .i64 0,.int .i64 0,.str [],.slice 1 [],.slice 1 [],.slice 1 [Da.int .i64 c,Da.int .i64 h]])] q.hp fun f o=>dP f fun w=>aP .i64 w fun i=>aq o fun r=>Y (a,i,r))
def Cg:Rd eQ mZ:= .o 0 0<| .v 1 (.F 1000160 (.co 0 .n))<| .l 2 1<| .i 7<| .h r_PsA
def Dc (J:JJ):=jN cc n (fun(a,b)=>J .ret (tI 6 a .nil) b.hp)
def qR:df:=gH 107 Cg (Dc cc n) cw
def BY {cc call}(hc:bA cc call)(n):bk (qR cc n) call n 1 (107,[0,1,2,7],Bz,true):=cu ao hc aA
def xC (c:bE):R:=cc 160 [.box 0 0] c.hp fun a e=>dP a fun h=>aP .i64 h fun d=>aq e fun g=>itL (jN cc n (fun(b,f)=>some (pI b,f.hp))) n ([Da.str [43],Da.str [45]],d,g)
def J0 (n:Nat)(c:bE):=iC (fun cc=>xC cc n c) 146 [.box 0 0,.fn 1000160 [.box 0 0],pL 1 [.str [43],.str [45]]] c.hp 1 n ao (fun cc=>qR cc n) (fun hc=>bj (BY hc n) aA)
def wQ:=b6 (fc 146).body 1 0
abbrev kG:=LD×Int×bE
def gQ (n:Nat)(j:Int×bE->R)(Y:kG->R):kG->R:=fun(a,c,s)=>cc 155 [pL 1 a,.fn 1000100 [.box 0 0]] s.hp fun g l=>dP g fun t=>aP .i64 t fun b=>aq l fun d=>iL (aO b 0) (j (c,d)) (cc 161 [.box 0 0] d.hp fun e m=>dP e fun u=>aP .i64 u fun h=>aq m fun q=>cL (cp a b) fun v=>dm v fun p=>cc 123 [.box 0 0,.p (.agg [.int .i64 5,.str p,.int .i64 0,.int .i64 0,.str [],.slice 1 [],.slice 1 [],.slice 1 [Da.int .i64 c,Da.int .i64 h]])] q.hp fun f o=>dP f fun w=>aP .i64 w fun i=>aq o fun r=>Y (a,i,r))
def xg:Rd eQ kG:= .o 0 0<| .v 1 (.F 1000161 (.co 0 .n))<| .l 2 1<| .i 7<| .h r_PsA
def yG (J:JJ):=gQ cc n (fun(a,b)=>J .ret (tI 6 a .nil) b.hp)
def nW:df:=gH 107 xg (yG cc n) cw
def wZ {cc call}(hc:bA cc call)(n):bk (nW cc n) call n 1 (107,[0,1,2,7],wQ,true):=cu ao hc aA
def rP (c:bE):R:=cc 161 [.box 0 0] c.hp fun a e=>dP a fun h=>aP .i64 h fun d=>aq e fun g=>itL (gQ cc n (fun(b,f)=>some (pI b,f.hp))) n ([Da.str [42],Da.str [47],Da.str [37]],d,g)
def Dl (n:Nat)(c:bE):=iC (fun cc=>rP cc n c) 146 [.box 0 0,.fn 1000161 [.box 0 0],pL 1 [.str [42],.str [47],.str [37]]] c.hp 1 n ao (fun cc=>nW cc n) (fun hc=>bj (wZ hc n) aA)
def Rh (n:Nat)(c:bE):R:=cc 146 [.box 0 0,.fn 1000147 [.box 0 0],pL 1 [Da.str [124,124]]] c.hp fun a d=>dP a fun f=>aP .i64 f fun b=>aq d fun e=>some (pI b,e.hp)
def Ű (n:Nat)(c:bE):=dA (fun cc=>Rh cc n c) 135 [.box 0 0] c.hp 1 n ao
def agt (n:Nat)(c:bE):R:=cc 146 [.box 0 0,.fn 1000156 [.box 0 0],pL 1 [Da.str [38,38]]] c.hp fun a d=>dP a fun f=>aP .i64 f fun b=>aq d fun e=>some (pI b,e.hp)
def ů (n:Nat)(c:bE):=dA (fun cc=>agt cc n c) 147 [.box 0 0] c.hp 1 n ao
def XK (n:Nat)(c:bE):R:=cc 159 [.box 0 0] c.hp fun e o=>dP e fun x=>aP .i64 x fun a=>aq o fun t=>cc 155 [pL 1 [Da.str [61,61],Da.str [33,61],Da.str [60],Da.str [60,61],Da.str [62],Da.str [62,61]],.fn 1000100 [.box 0 0]] t.hp fun h p=>dP h fun y=>aP .i64 y fun b=>aq p fun d=>iL (aS 0 b) (cc 159 [.box 0 0] d.hp fun f l=>dP f fun u=>aP .i64 u fun i=>aq l fun r=>cL (cp [Da.str [61,61],Da.str [33,61],Da.str [60],Da.str [60,61],Da.str [62],Da.str [62,61]] b) fun v=>dm v fun q=>cc 123 [.box 0 0,.p (.agg [.int .i64 5,.str q,.int .i64 0,.int .i64 0,.str [],.slice 1 [],.slice 1 [],.slice 1 [Da.int .i64 a,Da.int .i64 i]])] r.hp fun g m=>dP g fun w=>aP .i64 w fun j=>aq m fun s=>some (pI j,s.hp)) (some (pI a,d.hp))
def abw (n:Nat)(c:bE):=dA (fun cc=>XK cc n c) 156 [.box 0 0] c.hp 1 n ao
def XN (n:Nat)(c:bE):R:=cc 146 [.box 0 0,.fn 1000160 [.box 0 0],pL 1 [Da.str [43],Da.str [45]]] c.hp fun a d=>dP a fun f=>aP .i64 f fun b=>aq d fun e=>some (pI b,e.hp)
def abz (n:Nat)(c:bE):=dA (fun cc=>XN cc n c) 159 [.box 0 0] c.hp 1 n ao
def Rm (n:Nat)(c:bE):R:=cc 146 [.box 0 0,.fn 1000161 [.box 0 0],pL 1 [Da.str [42],Da.str [47],Da.str [37]]] c.hp fun a d=>dP a fun f=>aP .i64 f fun b=>aq d fun e=>some (pI b,e.hp)
def ŵ (n:Nat)(c:bE):=dA (fun cc=>Rm cc n c) 160 [.box 0 0] c.hp 1 n ao
def Hb:=b6 (fc 161).body 1 0
abbrev p8:=LN×LN×Int×bE
def ki (n:Nat)(v:Int×bE->R)(w:Int×bE->R)(x:(LN)×(LN)×Int×Bool×bE->R)(Y:p8->R):p8->R:=fun(c,d,a,h)=>iL (aO a 2) (iL (aS 0 a) (iL (aO a ↑2) (cL ([Da.str c,Da.str d][Int.toNat a]?) fun M=>dm M fun b=>cc 43 [.box 0 0,pS b] h.hp fun r D=>dP r fun N=>af N fun i=>aq D fun f=>iL i (cc 121 [.box 0 0,pS b] f.hp fun l y=>aI l fun E=>ag E<|aq y fun F=>cc 42 [.box 0 0] F.hp fun m z=>dP m fun I=>af I fun j=>aq z fun e=>iL j (cc 161 [.box 0 0] e.hp fun o A=>dP o fun J=>aP .i64 J fun s=>aq A fun g=>cc 123 [.box 0 0,.p (.agg [.int .i64 4,.str b,.int .i64 0,.int .i64 0,.str [],.slice 1 [],.slice 1 [],.slice 1 [Da.int .i64 s]])] ({g with ne:=(ae .i64 (g.ne - 1))}:bE).hp fun p B=>dP p fun K=>aP .i64 K fun t=>aq B fun G=>v (t,G)) (cc 123 [.box 0 0,.p (.agg [.int .i64 4,.str b,.int .i64 0,.int .i64 0,.str [],.slice 1 [],.slice 1 [],.slice 1 [Da.int .i64 0]])] ({e with ne:=(ae .i64 (e.ne - 1))}:bE).hp fun q C=>dP q fun L=>aP .i64 L fun u=>aq C fun H=>w (u,H))) (Y (c,d,ae .i64 (a+1),f))) (none)) (none)) (x (c,d,a,aO a 2,h))
def H8:Rd eQ p8:= .tl<| .o 0 0<| .t 6 (.P (.G (.gs<| .gs .n)))<| .i 7<| .h r_PsA
def JN (J:JJ):=ki cc n (fun(b,a)=>J .ret (tI 2 b .nil) [.box [pL 4 a.tk,pI a.ps,pI a.en,pI a.aT,pI a.er,pI a.ne,pI a.tt,.arr 3 0 a.nd 8],.dead,.dead,.arr a.no]) (fun(b,a)=>J .ret (tI 2 b .nil) [.box [pL 4 a.tk,pI a.ps,pI a.en,pI a.aT,pI a.er,pI a.ne,pI a.tt,.arr 2 0 a.nd 8],.dead,.arr a.no]) (fun(b,a,c,d,e)=>J (.exit 0) (tO 0 0<| .cons 6 (.p (.agg [(.str b),(.str a)]))<|tI 7 c<|tB 8 d .nil) e.hp)
def vM:df:=gH 411 H8 (JN cc n) cw
def HL {cc call}(hc:bA cc call)(n):bk (vM cc n) call n 1 (411,[0,6,7],Hb,true):=cu ao hc aA
def D0 (c:bE):R:=itL (ki cc n (fun(b,g)=>some (pI b,g.hp)) (fun(d,h)=>some (pI d,h.hp)) (fun(p,q,o,m,i)=>cc 162 [.box 0 0] i.hp fun a f=>dP a fun l=>aP .i64 l fun e=>aq f fun j=>some (pI e,j.hp))) n ([45],[33],0,c)
def UF (n:Nat)(c:bE):=iC (fun cc=>D0 cc n c) 161 [.box 0 0] c.hp 1 n ao (fun cc=>vM cc n) (fun hc=>bj (HL hc n) aA)
def zW (n:Nat)(c:AH):R:=cc 43 [.box 0 0,pS [45]] (cg.mk c.tk c.ps c.en c.aT c.er c.ne c.tt c.nd).hp fun e g=>dP e fun j=>af j fun d=>aR g fun a=>iL d (some (pB true,(AH.mk a.tk a.ps a.en a.aT a.er a.ne a.tt a.nd).hp)) (cc 73 [.box 0 0,pI 0] a.hp fun f h=>dP f fun l=>aQ l fun i=>aR h fun b=>some (pB (eqI i.Kind 3),(AH.mk b.tk b.ps b.en b.aT b.er b.ne b.tt b.nd).hp))
def OM (n:Nat)(c:AH):=dA (fun cc=>zW cc n c) 116 [.box 0 0] c.hp 2 n ao
def zX (n:Nat)(c:Ŋ):R:=cc 118 [.box 0 0] (cg.mk c.tk c.ps c.en c.aT c.er c.ne c.tt c.nd).hp fun d e=>dP d fun f=>aP .i64 f fun b=>aR e fun a=>iL (Nat.beq c.vi (List.length c.il)) (iL (cO (List.length c.il+List.length [Da.int .i64 b]) 8) (some (.tup [],(KbJ.mk c.vk c.vn c.vs (List.length (c.il++[Da.int .i64 b])) a.tk a.ps a.en a.aT a.er a.ne a.tt a.nd (c.il++[Da.int .i64 b])).hp)) (none)) (none)
def ON (n:Nat)(c:Ŋ):=dA (fun cc=>zX cc n c) 117 [.box 0 0,.box 2 0] c.hp 4 n ao
def zY (n:Nat)(c:AH):R:=cc 73 [.box 0 0,pI 0] (cg.mk c.tk c.ps c.en c.aT c.er c.ne c.tt c.nd).hp fun b d=>dP b fun f=>aQ f fun e=>aR d fun a=>some (pB (eqI e.Kind 4),(AH.mk a.tk a.ps a.en a.aT a.er a.ne a.tt a.nd).hp)
def OO (n:Nat)(c:AH):=dA (fun cc=>zY cc n c) 119 [.box 0 0] c.hp 2 n ao
def zZ (n:Nat)(c:ŋ):R:=cc 101 [.box 0 0,pI 4] (cg.mk c.tk c.ps c.en c.aT c.er c.ne c.tt c.nd).hp fun d e=>dP d fun f=>aQ f fun b=>aR e fun a=>iL (Nat.beq c.vl (List.length c.il)) (iL (cO (List.length c.il+List.length [Da.str b.Text]) 16) (some (.tup [],(KbM.mk c.vk c.vn c.vs (List.length (c.il++[Da.str b.Text])) a.tk a.ps a.en a.aT a.er a.ne a.tt a.nd (c.il++[Da.str b.Text])).hp)) (none)) (none)
def OP (n:Nat)(c:ŋ):=dA (fun cc=>zZ cc n c) 120 [.box 0 0,.box 2 0] c.hp 4 n ao
def wO:=b6 (fc 104).body 1 0
abbrev eS:=Int×Int×cg×Int×Int×LN×Nat×LD
def eY (n:Nat)(q:Int×Int×Bool×cg×Int×Int×(LN)×Nat×LD->R)(J:Int×Int×Bool×cg×Int×Int×(LN)×Nat×LD->R)(Y:eS->R):eS->R:=fun(f,g,u8,l,j,p,o,m)=>cc 42 [.box 0 0] u8.hp fun z K=>dP z fun a3=>af a3 fun r=>aR K fun e=>iL r (cc 116 [.box 0 0] (AH.mk e.tk e.ps e.en e.aT e.er e.ne e.tt e.nd).hp fun A L=>dP A fun a4=>af a4 fun y=>R0 L fun a=>iL (!y) (cc 44 [.box 0 0,pI 13] (cg.mk a.tk a.ps a.en a.aT a.er a.ne a.tt a.nd).hp fun B M=>aI B fun W=>ag W<|aR M fun h=>cc 117 [.box 0 0,.box 2 0] (Ŋ.mk l j p o m h.tk h.ps h.en h.aT h.er h.ne h.tt h.nd).hp fun C N=>aI C fun X=>ag X<|KN N fun b=>cc 100 [.box 0 0,pS [44]] (cg.mk b.tk b.ps b.en b.aT b.er b.ne b.tt b.nd).hp fun D O=>dP D fun a5=>af a5 fun s=>aR O fun v=>iL (!s) (q (f,g,!s,v,b.vk,b.vn,b.vs,b.vi,b.il)) (Y (f,ae .i64 (g+1),v,b.vk,b.vn,b.vs,b.vi,b.il))) (iL (eqI g f) (cc 44 [.box 0 0,pI 5] (cg.mk a.tk a.ps a.en a.aT a.er a.ne a.tt a.nd).hp fun E P=>aI E fun Z=>ag Z<|aR P fun i=>cc 117 [.box 0 0,.box 2 0] (Ŋ.mk l j p o m i.tk i.ps i.en i.aT i.er i.ne i.tt i.nd).hp fun F S=>aI F fun a0=>ag a0<|KN S fun c=>cc 100 [.box 0 0,pS [44]] (cg.mk c.tk c.ps c.en c.aT c.er c.ne c.tt c.nd).hp fun G T=>dP G fun a6=>af a6 fun t=>aR T fun w=>iL (!t) (q (f,g,!t,w,c.vk,c.vn,c.vs,c.vi,c.il)) (Y (f,ae .i64 (g+1),w,c.vk,c.vn,c.vs,c.vi,c.il))) (cc 117 [.box 0 0,.box 2 0] (Ŋ.mk l j p o m a.tk a.ps a.en a.aT a.er a.ne a.tt a.nd).hp fun H U=>aI H fun a1=>ag a1<|KN U fun d=>cc 100 [.box 0 0,pS [44]] (cg.mk d.tk d.ps d.en d.aT d.er d.ne d.tt d.nd).hp fun I V=>dP I fun a7=>af a7 fun u=>aR V fun x=>iL (!u) (q (f,g,!u,x,d.vk,d.vn,d.vs,d.vi,d.il)) (Y (f,ae .i64 (g+1),x,d.vk,d.vn,d.vs,d.vi,d.il))))) (J (f,g,r,e,l,j,p,o,m))
def xe:Rd eQ eS:= .tl<| .o 0 0<| .i 1<| .v 2 (.F 116 (.co 1 .n))<| .v 3 (.F 117 (.co 2<| .co 1 .n))<| .i 8<| .h (.c (.Ob (.cl 4<| .ci<| .ci<| .ci<| .ci<| .ci<| .ci<| .cl 8 .n)) (.u (.Ob (.co 0 .n))<| .c (.Ob (.ci<| .ci<| .cs<| .c (.Ar 3 1)<| .u (.Nl 1) .n)) (.c .Oa .n)))
def yE (J:JJ):=eY cc n (fun(b,c,d,a,e,f,g,h,i)=>J .ret (tO 0 0<|tI 1 b<| .cons 2 (.fn 116 [(.box 1 0)])<| .cons 3 (.fn 117 [(.box 2 0),(.box 1 0)])<|tI 8 c<|tB 31 d .nil) [.box [pL 4 a.tk,pI a.ps,pI a.en,pI a.aT,pI a.er,pI a.ne,pI a.tt,pL 8 a.nd],.box [.box 0 0],.box [pI e,pI f,pS g,.arr 4 0 h 1,.sl F8.nil 1 []],.dead,.arr i]) (fun(b,c,d,a,e,f,g,h,i)=>J (.exit 0) (tO 0 0<|tI 1 b<| .cons 2 (.fn 116 [(.box 1 0)])<| .cons 3 (.fn 117 [(.box 2 0),(.box 1 0)])<|tI 8 c<|tB 12 d .nil) ({a with vk:=e,vn:=f,vs:=g,vi:=h,il:=i}:mq).hp)
def nU:df:=gH 107 xe (yE cc n) cw
def wX {cc call}(hc:bA cc call)(n):bk (nU cc n) call n 3 (107,[0,1,2,3,8],wO,true):=cu ao hc aA
def rN (c:mq)(i:Int):R:=cc 43 [.box 0 0,pS [41]] (cg.mk c.tk c.ps c.en c.aT c.er c.ne c.tt c.nd).hp fun d p=>dP d fun u=>af u fun b=>aR p fun a=>iL b (some (.tup [],(mq.mk a.tk a.ps a.en a.aT a.er a.ne a.tt a.nd c.vk c.vn c.vs c.vi c.il).hp)) (itL (eY cc n (fun(x,y,v,s,e,f,q,m,j)=>some (.tup [],({s with vk:=e,vn:=f,vs:=q,vi:=m,il:=j}:mq).hp)) (fun(z,A,w,t,g,h,r,o,l)=>some (.tup [],({t with vk:=g,vn:=h,vs:=r,vi:=o,il:=l}:mq).hp))) n (i,0,a,c.vk,c.vn,c.vs,c.vi,c.il))
def Dj (n:Nat)(c:mq)(i:Int):=iC (fun cc=>rN cc n c i) 104 [.box 0 0,pI i,.fn 116 [.box 1 0],.fn 117 [.box 2 0,.box 1 0]] c.hp 3 n ao (fun cc=>nU cc n) (fun hc=>bj (wX hc n) aA)
def wP:=b6 (fc 104).body 1 0
abbrev eT:=Int×Int×cg×Int×Int×LN×Nat×LD
def eZ (n:Nat)(q:Int×Int×Bool×cg×Int×Int×(LN)×Nat×LD->R)(J:Int×Int×Bool×cg×Int×Int×(LN)×Nat×LD->R)(Y:eT->R):eT->R:=fun(f,g,u8,l,j,p,o,m)=>cc 42 [.box 0 0] u8.hp fun z K=>dP z fun a3=>af a3 fun r=>aR K fun e=>iL r (cc 119 [.box 0 0] (AH.mk e.tk e.ps e.en e.aT e.er e.ne e.tt e.nd).hp fun A L=>dP A fun a4=>af a4 fun y=>R0 L fun a=>iL (!y) (cc 44 [.box 0 0,pI 13] (cg.mk a.tk a.ps a.en a.aT a.er a.ne a.tt a.nd).hp fun B M=>aI B fun W=>ag W<|aR M fun h=>cc 120 [.box 0 0,.box 2 0] (ŋ.mk l j p o m h.tk h.ps h.en h.aT h.er h.ne h.tt h.nd).hp fun C N=>aI C fun X=>ag X<|KO N fun b=>cc 100 [.box 0 0,pS [44]] (cg.mk b.tk b.ps b.en b.aT b.er b.ne b.tt b.nd).hp fun D O=>dP D fun a5=>af a5 fun s=>aR O fun v=>iL (!s) (q (f,g,!s,v,b.vk,b.vn,b.vs,b.vl,b.il)) (Y (f,ae .i64 (g+1),v,b.vk,b.vn,b.vs,b.vl,b.il))) (iL (eqI g f) (cc 44 [.box 0 0,pI 5] (cg.mk a.tk a.ps a.en a.aT a.er a.ne a.tt a.nd).hp fun E P=>aI E fun Z=>ag Z<|aR P fun i=>cc 120 [.box 0 0,.box 2 0] (ŋ.mk l j p o m i.tk i.ps i.en i.aT i.er i.ne i.tt i.nd).hp fun F S=>aI F fun a0=>ag a0<|KO S fun c=>cc 100 [.box 0 0,pS [44]] (cg.mk c.tk c.ps c.en c.aT c.er c.ne c.tt c.nd).hp fun G T=>dP G fun a6=>af a6 fun t=>aR T fun w=>iL (!t) (q (f,g,!t,w,c.vk,c.vn,c.vs,c.vl,c.il)) (Y (f,ae .i64 (g+1),w,c.vk,c.vn,c.vs,c.vl,c.il))) (cc 120 [.box 0 0,.box 2 0] (ŋ.mk l j p o m a.tk a.ps a.en a.aT a.er a.ne a.tt a.nd).hp fun H U=>aI H fun a1=>ag a1<|KO U fun d=>cc 100 [.box 0 0,pS [44]] (cg.mk d.tk d.ps d.en d.aT d.er d.ne d.tt d.nd).hp fun I V=>dP I fun a7=>af a7 fun u=>aR V fun x=>iL (!u) (q (f,g,!u,x,d.vk,d.vn,d.vs,d.vl,d.il)) (Y (f,ae .i64 (g+1),x,d.vk,d.vn,d.vs,d.vl,d.il))))) (J (f,g,r,e,l,j,p,o,m))
def xf:Rd eQ eT:= .tl<| .o 0 0<| .i 1<| .v 2 (.F 119 (.co 1 .n))<| .v 3 (.F 120 (.co 2<| .co 1 .n))<| .i 8<| .h (.c (.Ob (.cl 4<| .ci<| .ci<| .ci<| .ci<| .ci<| .ci<| .cl 8 .n)) (.u (.Ob (.co 0 .n))<| .c (.Ob (.ci<| .ci<| .cs<| .u (.Nl 1)<| .c (.Ar 3 1) .n)) (.c .Oa .n)))
def yF (J:JJ):=eZ cc n (fun(b,c,d,a,e,f,g,h,i)=>J .ret (tO 0 0<|tI 1 b<| .cons 2 (.fn 119 [(.box 1 0)])<| .cons 3 (.fn 120 [(.box 2 0),(.box 1 0)])<|tI 8 c<|tB 31 d .nil) [.box [pL 4 a.tk,pI a.ps,pI a.en,pI a.aT,pI a.er,pI a.ne,pI a.tt,pL 8 a.nd],.box [.box 0 0],.box [pI e,pI f,pS g,.sl F8.nil 1 [],.arr 4 0 h 1],.dead,.arr i]) (fun(b,c,d,a,e,f,g,h,i)=>J (.exit 0) (tO 0 0<|tI 1 b<| .cons 2 (.fn 119 [(.box 1 0)])<| .cons 3 (.fn 120 [(.box 2 0),(.box 1 0)])<|tI 8 c<|tB 12 d .nil) ({a with vk:=e,vn:=f,vs:=g,vl:=h,il:=i}:mt).hp)
def nV:df:=gH 107 xf (yF cc n) cw
def wY {cc call}(hc:bA cc call)(n):bk (nV cc n) call n 3 (107,[0,1,2,3,8],wP,true):=cu ao hc aA
def rO (c:mt)(i:Int):R:=cc 43 [.box 0 0,pS [41]] (cg.mk c.tk c.ps c.en c.aT c.er c.ne c.tt c.nd).hp fun d p=>dP d fun u=>af u fun b=>aR p fun a=>iL b (some (.tup [],(mt.mk a.tk a.ps a.en a.aT a.er a.ne a.tt a.nd c.vk c.vn c.vs c.vl c.il).hp)) (itL (eZ cc n (fun(x,y,v,s,e,f,q,m,j)=>some (.tup [],({s with vk:=e,vn:=f,vs:=q,vl:=m,il:=j}:mt).hp)) (fun(z,A,w,t,g,h,r,o,l)=>some (.tup [],({t with vk:=g,vn:=h,vs:=r,vl:=o,il:=l}:mt).hp))) n (i,0,a,c.vk,c.vn,c.vs,c.vl,c.il))
def Dk (n:Nat)(c:mt)(i:Int):=iC (fun cc=>rO cc n c i) 104 [.box 0 0,pI i,.fn 119 [.box 1 0],.fn 120 [.box 2 0,.box 1 0]] c.hp 3 n ao (fun cc=>nV cc n) (fun hc=>bj (wY hc n) aA)
end
end Go.Ab
