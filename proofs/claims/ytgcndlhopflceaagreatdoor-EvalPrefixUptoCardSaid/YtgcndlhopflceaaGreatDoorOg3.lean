import Derived.Test.YtgcndlhopflceaaGreatDoorDcA
import Derived.Test.YtgcndlhopflceaaGreatDoorAwZ
import Derived.KernelRfl
set_option linter.all false
namespace Go.Ab
open Go
set_option maxRecDepth 100000
noncomputable section
variable (cc:ab)(n:Nat)
def zk:=bU (eJ 51).body 1 0
def Mt:=bU zk 27 0
abbrev BN:=Tn×af
def uh (n:Nat)(e:Tn×af×ah->R):BN->R:=fun(W,d)=>cL (bA d.Kids 0) fun Z=>bg .i64 Z fun x=>cc 77 [.box 0 0,pI x] (W.hpA 0) fun b y=>AO 0 y fun a c=>iL (Ŀ b) (Tr b c fun G=>cc 108 [.p (.ptr G.e)] [] fun q z=>dP q fun X=>ag X fun H=>aj z<|e (a,d,H)) (iL (wC 109 b) (Ts b c<|cc 109 [.box 0 0] ([.box [.box 1 0]]++(a.hpA 1)) fun r A=>qA 1 ([.box [.box 1 0]]++(a.hpA 1)) r A fun I J=>e (J,d,I)) (iL (wC 110 b) (Tt b c fun f=>cc 110 [.box 0 0,.box 1 0] ([.box [.box 2 0],.box [pI f]]++(a.hpA 2)) fun s B=>qA 2 ([.box [.box 2 0],.box [pI f]]++(a.hpA 2)) s B fun K L=>e (L,d,K)) (iL (wC 162 b) (LU b c fun h g=>cc 162 [.box 0 0,.box 1 0,.box 2 0] ([.box [.box 3 0],h.b,.box [pI g]]++(a.hpA 3)) fun t C=>qA 3 ([.box [.box 3 0],h.b,.box [pI g]]++(a.hpA 3)) t C fun M N=>e (N,d,M)) (iL (jB 112 c) (q7 112 b c fun i j=>cc 157 [.box 0 0,.box 1 0,.box 2 0] ([.box [.box 3 0],i.b,.box [.fn 112 [.box 10 0]]]++(a.hpA 3++[j.b])) fun u D=>dVn ([.box [.box 3 0],i.b,.box [.fn 112 [.box 10 0]]]++(a.hpA 3++[j.b])) u D fun O P=>e (P,d,O)) (iL (jB 115 c) (q7 115 b c fun l m=>cc 157 [.box 0 0,.box 1 0,.box 2 0] ([.box [.box 3 0],l.b,.box [.fn 115 [.box 10 0]]]++(a.hpA 3++[m.b])) fun v E=>dVn ([.box [.box 3 0],l.b,.box [.fn 115 [.box 10 0]]]++(a.hpA 3++[m.b])) v E fun S T=>e (T,d,S)) (q7 117 b c fun o p=>cc 157 [.box 0 0,.box 1 0,.box 2 0] ([.box [.box 3 0],o.b,.box [.fn 117 [.box 10 0]]]++(a.hpA 3++[p.b])) fun w F=>dVn ([.box [.box 3 0],o.b,.box [.fn 117 [.box 10 0]]]++(a.hpA 3++[p.b])) w F fun U V=>e (V,d,U)))))))
def Nd:Rd dT BN:= .rm (.o 0 0<| .o 3 1<| .h (.c (.Ob (.co 2<| .cs<| .cl 7<| .cl 4<| .ci<| .ci<| .ci<| .cl 8<| .cs<| .cl 6<| .ci<| .c (.Ar 4 5)<| .c (.Ar 5 5)<| .c (.Ar 6 4)<| .ci<| .ci<| .c (.Ar 7 18)<| .c (.P .B) .n)) (.c (.Ob (.ci<| .cs<| .ci<| .ci<| .cs<| .cl 1<| .cl 1<| .cl 1 .n)) (.c (.Ob (.cl 3<| .c (.Ar 3 1) .n)) (.c .Oa<| .c .Ow (.c .Oa<| .c .Ow (.c .Oa .n))))))) (fun((c,(d,(p,(A,(F,(G,(H,(I,(J,(K,(e,(f,(g,(h,(i,(j,(l,()))))))))))))))))),((m,(n,(o,(q,(r,(s,(t,(u,())))))))),((v,(w,())),(x,((y,z),(B,((C,D),(E,()))))))))=>((Tn.mk c d p A F G H I J K e f g h i j l v w x y z B C D E),(af.mk m n o q r s t u))) (fun(a,b)=>((a.tn,(a.tf,(a.tm,(a.aT,(a.aM,(a.aN,(a.no,(a.ky,(a.ip,(a.nx,(a.fn,(a.ln,(a.en,(a.lm,(a.rd,(a.sn,(a.sd,()))))))))))))))))),((b.Op,(b.Name,(b.Value_Kind,(b.Value_N,(b.Value_S,(b.Value_I,(b.Value_L,(b.Kids,())))))))),((a.ty,(a.bn,())),(a.bs,((a.fb,a.fs),(a.ls,((a.eb,a.es),(a.sg,())))))))))
def QF (J:JJ):=uh cc n (fun(a,b,c)=>J .norm (tO 0 0<|tO 3 1<|tO 4 2 .nil) [.box [.box 3 0,pS a.tn,pL 7 a.tf,pL 4 a.tm,pI a.aT,pI a.aM,pI a.aN,pL 8 a.no,pS a.ky,pL 6 a.ip,pI a.nx,.arr 5 0 a.fn 5,.arr 6 0 a.ln 5,.arr 7 0 a.en 4,pI a.lm,pI a.rd,.arr 8 0 a.sn 18,pB a.sd],b.b,c.b,.box [pL 3 a.ty,.arr 4 0 a.bn 1],.arr a.bs,(.may a.fb a.fs),.arr a.ls,(.may a.eb a.es),.arr a.sg])
def Af:cQ:=xn 28393 Nd (QF cc n) cK
def MP {cc call}(hc:bF cc call)(n):bv (Af cc n) call n 1 (28393,[0,3],Mt,false):=lX bB hc aH
abbrev lM:=Tn×af
def ug (j:lM->R)(f:Bool×Tn×af×ah->R)(l:Bool×Tn×af->R)(Y:lM->R):lM->R:=fun(a,e)=>iL (!a.sd) (iL (az a.rd 0) (cc 53 [.box 0 0,pI 17] (a.hpA 0) fun g m=>dU g m fun p=>j (p,e)) (uh cc n (fun(b,c,d)=>iL b.sd (f (true,b,c,d)) (iL (az d.N 0) (f (az d.N 0,b,c,d)) (cL (bA c.Kids 1) fun r=>bg .i64 r fun i=>cc 20 [.box 0 0,pI i] (b.hpA 0) fun h o=>dU h o fun q=>Y (q,c)))) (Tn.mk a.tn a.tf a.tm a.aT a.aM a.aN a.no a.ky a.ip a.nx a.fn a.ln a.en a.lm (aq .i64 (a.rd - 1)) a.sn a.sd a.ty a.bn a.bs a.fb a.fs a.ls a.eb a.es a.sg,e))) (l (!a.sd,a,e))
def Nc:Rd dT lM:= .rm (.o 0 0<| .o 3 1<| .h (.c (.Ob (.co 2<| .cs<| .cl 7<| .cl 4<| .ci<| .ci<| .ci<| .cl 8<| .cs<| .cl 6<| .ci<| .c (.Ar 4 5)<| .c (.Ar 5 5)<| .c (.Ar 6 4)<| .ci<| .ci<| .c (.Ar 7 18)<| .c (.P .B) .n)) (.c (.Ob (.ci<| .cs<| .ci<| .ci<| .cs<| .cl 1<| .cl 1<| .cl 1 .n)) (.c (.Ob (.cl 3<| .c (.Ar 3 1) .n)) (.c .Oa<| .c .Ow (.c .Oa<| .c .Ow (.c .Oa .n))))))) (fun((c,(d,(p,(A,(F,(G,(H,(I,(J,(K,(e,(f,(g,(h,(i,(j,(l,()))))))))))))))))),((m,(n,(o,(q,(r,(s,(t,(u,())))))))),((v,(w,())),(x,((y,z),(B,((C,D),(E,()))))))))=>((Tn.mk c d p A F G H I J K e f g h i j l v w x y z B C D E),(af.mk m n o q r s t u))) (fun(a,b)=>((a.tn,(a.tf,(a.tm,(a.aT,(a.aM,(a.aN,(a.no,(a.ky,(a.ip,(a.nx,(a.fn,(a.ln,(a.en,(a.lm,(a.rd,(a.sn,(a.sd,()))))))))))))))))),((b.Op,(b.Name,(b.Value_Kind,(b.Value_N,(b.Value_S,(b.Value_I,(b.Value_L,(b.Kids,())))))))),((a.ty,(a.bn,())),(a.bs,((a.fb,a.fs),(a.ls,((a.eb,a.es),(a.sg,())))))))))
def QE (J:JJ):=ug cc n (fun(b,a)=>J .ret .nil [.box [.box 8 0,pS b.tn,pL 7 b.tf,pL 4 b.tm,pI b.aT,pI b.aM,pI b.aN,pL 8 b.no,pS b.ky,pL 6 b.ip,pI b.nx,.arr 10 0 b.fn 5,.arr 11 0 b.ln 5,.arr 12 0 b.en 4,pI b.lm,pI b.rd,.arr 13 0 b.sn 18,pB b.sd],a.b,.dead,.dead,.dead,.dead,.dead,.dead,.box [pL 3 b.ty,.arr 9 0 b.bn 1],.arr b.bs,(.may b.fb b.fs),.arr b.ls,(.may b.eb b.es),.arr b.sg]) (fun(b,a,c,d)=>J .ret (tO 0 0<|tO 3 1<|tB 39 b .nil) [.box [.box 3 0,pS a.tn,pL 7 a.tf,pL 4 a.tm,pI a.aT,pI a.aM,pI a.aN,pL 8 a.no,pS a.ky,pL 6 a.ip,pI a.nx,.arr 5 0 a.fn 5,.arr 6 0 a.ln 5,.arr 7 0 a.en 4,pI a.lm,pI a.rd,.arr 8 0 a.sn 18,pB a.sd],c.b,d.b,.box [pL 3 a.ty,.arr 4 0 a.bn 1],.arr a.bs,(.may a.fb a.fs),.arr a.ls,(.may a.eb a.es),.arr a.sg]) (fun(b,a,c)=>J (.exit 0) (tO 0 0<|tO 3 1<|tB 9 b .nil) [.box [.box 2 0,pS a.tn,pL 7 a.tf,pL 4 a.tm,pI a.aT,pI a.aM,pI a.aN,pL 8 a.no,pS a.ky,pL 6 a.ip,pI a.nx,.arr 4 0 a.fn 5,.arr 5 0 a.ln 5,.arr 6 0 a.en 4,pI a.lm,pI a.rd,.arr 7 0 a.sn 18,pB a.sd],c.b,.box [pL 3 a.ty,.arr 3 0 a.bn 1],.arr a.bs,(.may a.fb a.fs),.arr a.ls,(.may a.eb a.es),.arr a.sg])
def Ae:cQ:=gm 27 Nc (QE cc n) (Af cc n)
def MO {cc call}(hc:bF cc call)(n):bv (Ae cc n) call n 1 (27,[0,3],zk,true):=cE bB hc (bm (MP hc n) aH)
def N2 (c:Tn)(x:af):R:=itL (ug cc n (fun(a,g)=>some (.tup [],(a.hpA 0))) (fun(e,b,h,i)=>some (.tup [],(b.hpA 0))) (fun(f,d,j)=>some (.tup [],(d.hpA 0)))) n (c,x)
def Zg (n:Nat)(c:Tn)(x:af):=ij (fun cc=>N2 cc n c x) 51 [.box 0 0,.p x.e] (c.hpA 0) 1 n bB (fun cc=>Ae cc n) (fun hc=>bm (MO hc n) aH)
def Ua (n:Nat)(c:Tn)(x:af)(q:Int):R:=cc 52 [.box 0 0,pL 1 x.Kids] (c.hpA 0) fun f m=>dQ f m fun e b=>iL b.sd (some (.tup [],(b.hpA 0))) (cc 80 [pI q,pL 5 (List.take (List.length e) (List.drop 0 e)),pI ↑b.en] [] fun i o=>ba i fun r=>aJ r fun j s=>dP j fun u=>rI u fun a=>aJ s fun g p=>dP g fun v=>bg .i64 v fun d=>aj p<|aj o<|iL (!az d 0) (cc 53 [.box 0 0,pI d] (b.hpA 0) fun h l=>dU h l fun t=>some (.tup [],(t.hpA 0))) (iL b.eb (none) (iL (Nat.beq b.en (List.length b.es)) (iL (ce (List.length b.es+List.length [Da.agg [Da.int .i64 a.Kind,Da.str a.Name,Da.int .i64 a.A,Da.int .i64 a.B]]) 40) (some (.tup [],(Tn.hpA 0 {b with en:=(List.length (b.es++[Da.agg [Da.int .i64 a.Kind,Da.str a.Name,Da.int .i64 a.A,Da.int .i64 a.B]])),eb:=false,es:=(b.es++[Da.agg [Da.int .i64 a.Kind,Da.str a.Name,Da.int .i64 a.A,Da.int .i64 a.B]])}))) (none)) (none))))
def Ţ (n:Nat)(c:Tn)(x:af)(q:Int):=dG (fun cc=>Ua cc n c x q) 54 [.box 0 0,.p x.e,pI q] (c.hpA 0) 1 n bB
def wG:=bU (eJ 20).body 1 0
abbrev jP:=LD×Int×Int×Tn
def fu (n:Nat)(g:LD×Int×Int×Bool×Tn->R)(Y:jP->R):jP->R:=fun(c,b,a,d)=>iL (aP a b) (cL (bA c a) fun j=>bg .i64 j fun f=>cc 20 [.box 0 0,pI f] (d.hpA 0) fun e h=>dU e h fun i=>Y (c,b,aq .i64 (a+1),i)) (g (c,b,a,aP a b,d))
def wU:Rd dT jP:= .o 0 0<| .l 100 1<| .i 101<| .i 102<| .h ab4
def yn (J:JJ):=fu cc n (fun(a,b,c,d,e)=>J (.exit 1) (tO 0 0<|tL 100 1 a<|tI 101 b<|tI 102 c<|tB 103 d .nil) (e.hpA 0))
def nA:cQ:=gm 7523591564995227 wU (yn cc n) cK
def wO {cc call}(hc:bF cc call)(n):bv (nA cc n) call n 1 (7523591564995227,[0,100,101,102],wG,true):=cE bB hc aH
def rj (c:Tn)(i:Int):R:=iL c.sd (some (.tup [],(c.hpA 0))) (cL (bA c.no i) fun x1=>bf x1 fun a=>iL (az a.Op 8) (iL (az a.Op 8) (cL (bA a.Kids 0) fun x3=>bg .i64 x3 fun S=>cc 47 [.box 0 0,pI S] (c.hpA 0) fun J o6=>dW J o6 fun b l=>iL (!l.sd) (iL l.fb (none) (cc 48 [.box 0 0,pI i] (l.hpV 0) fun o V=>Z8 0 V fun e a2=>aj a2<|iL (isE 3 o) (LR 3 0 o fun r=>cL e.fs[r]? fun e7=>ag e7 fun c6=>some (.tup [],(Tn.hpA 0 {e with fb:=false,fs:=(List.set e.fs r (Da.agg (splice (cells (ah.e c6)) 0 (cells (Da.agg [Da.int .i64 b.Kind,Da.int .i64 b.N,Da.str b.S,Da.slice 1 b.I,Da.slice 1 b.L])))))}))) (LR 4 0 o fun s=>cL e.ls[s]? fun e8=>ag e8 fun c7=>some (.tup [],(Tn.hpA 0 {e with fb:=false,ls:=(List.set e.ls s (Da.agg (splice (cells (ah.e c7)) 0 (cells (Da.agg [Da.int .i64 b.Kind,Da.int .i64 b.N,Da.str b.S,Da.slice 1 b.I,Da.slice 1 b.L])))))}))))) (some (.tup [],(l.hpA 0)))) (iL (az a.Op 10) (cL (bA a.Kids 0) fun e9=>bg .i64 e9 fun P=>cc 49 [.box 0 0,pI P] (c.hpA 0) fun A a3=>dW A a3 fun g5 c8=>some (.tup [],(c8.hpA 0))) (iL (az a.Op 11) (cc 50 [.box 0 0,.p a.e] (c.hpA 0) fun B a4=>dU B a4 fun c9=>some (.tup [],(c9.hpA 0))) (iL (az a.Op 12) (cc 51 [.box 0 0,.p a.e] (c.hpA 0) fun C a5=>dU C a5 fun d0=>some (.tup [],(d0.hpA 0))) (iL (az a.Op 13) (cc 52 [.box 0 0,pL 1 a.Kids] (c.hpA 0) fun D a6=>dQ D a6 fun g p=>iL (!p.sd) (iL (Nat.beq (List.length g) (List.length g)) (iL (ce (List.length g+List.length [Da.agg [Da.int .i64 0,Da.int .i64 0,Da.str [],Da.slice 1 [],Da.slice 1 []]]) 80) (iL (aP 0 ↑(List.length (g++[Da.agg [Da.int .i64 0,Da.int .i64 0,Da.str [],Da.slice 1 [],Da.slice 1 []]]))) (cL ((g++[Da.agg [Da.int .i64 0,Da.int .i64 0,Da.str [],Da.slice 1 [],Da.slice 1 []]])[0]?) fun f1=>ag f1 fun d1=>cc 21 [.box 0 0,.p d1.e] (p.hpA 0) fun E a7=>dU E a7 fun d2=>some (.tup [],(d2.hpA 0))) (none)) (none)) (none)) (some (.tup [],(p.hpA 0)))) (iL (az a.Op 14) (cc 53 [.box 0 0,pI 26] (c.hpA 0) fun F a8=>dU F a8 fun d3=>some (.tup [],(d3.hpA 0))) (iL (az a.Op 15) (cc 54 [.box 0 0,.p a.e,pI 1] (c.hpA 0) fun G a9=>dU G a9 fun d4=>some (.tup [],(d4.hpA 0))) (iL (az a.Op 16) (cc 54 [.box 0 0,.p a.e,pI 2] (c.hpA 0) fun H b0=>dU H b0 fun d6=>some (.tup [],(d6.hpA 0))) (iL (az a.Op 17) (cc 54 [.box 0 0,.p a.e,pI 3] (c.hpA 0) fun I b1=>dU I b1 fun d7=>some (.tup [],(d7.hpA 0))) (iL (az a.Op 18) (itL (fu cc n (fun(g4,g1,g2,f8,d8)=>some (.tup [],(d8.hpA 0)))) n (a.Kids,↑a.Kids.length,0,c)) (some (.tup [],(c.hpA 0))))))))))))) (iL (az a.Op 9) (cL (bA a.Kids 0) fun f2=>bg .i64 f2 fun T=>cc 47 [.box 0 0,pI T] (c.hpA 0) fun K b3=>dW K b3 fun d j=>iL (!j.sd) (iL j.fb (none) (cc 48 [.box 0 0,pI i] (j.hpV 0) fun m b4=>Z8 0 b4 fun f b5=>aj b5<|iL (isE 3 m) (LR 3 0 m fun t=>cL f.fs[t]? fun f3=>ag f3 fun e0=>some (.tup [],(Tn.hpA 0 {f with fb:=false,fs:=(List.set f.fs t (Da.agg (splice (cells (ah.e e0)) 0 (cells (Da.agg [Da.int .i64 d.Kind,Da.int .i64 d.N,Da.str d.S,Da.slice 1 d.I,Da.slice 1 d.L])))))}))) (LR 4 0 m fun u=>cL f.ls[u]? fun f4=>ag f4 fun e1=>some (.tup [],(Tn.hpA 0 {f with fb:=false,ls:=(List.set f.ls u (Da.agg (splice (cells (ah.e e1)) 0 (cells (Da.agg [Da.int .i64 d.Kind,Da.int .i64 d.N,Da.str d.S,Da.slice 1 d.I,Da.slice 1 d.L])))))}))))) (some (.tup [],(j.hpA 0)))) (iL (az a.Op 10) (cL (bA a.Kids 0) fun f5=>bg .i64 f5 fun U=>cc 49 [.box 0 0,pI U] (c.hpA 0) fun L b6=>dW L b6 fun g6 e2=>some (.tup [],(e2.hpA 0))) (iL (az a.Op 11) (cc 50 [.box 0 0,.p a.e] (c.hpA 0) fun M b7=>dU M b7 fun e3=>some (.tup [],(e3.hpA 0))) (iL (az a.Op 12) (cc 51 [.box 0 0,.p a.e] (c.hpA 0) fun N b8=>dU N b8 fun e4=>some (.tup [],(e4.hpA 0))) (iL (az a.Op 13) (cc 52 [.box 0 0,pL 1 a.Kids] (c.hpA 0) fun O b9=>dQ O b9 fun h q=>iL (!q.sd) (iL (Nat.beq (List.length h) (List.length h)) (iL (ce (List.length h+List.length [Da.agg [Da.int .i64 0,Da.int .i64 0,Da.str [],Da.slice 1 [],Da.slice 1 []]]) 80) (iL (aP 0 ↑(List.length (h++[Da.agg [Da.int .i64 0,Da.int .i64 0,Da.str [],Da.slice 1 [],Da.slice 1 []]]))) (cL ((h++[Da.agg [Da.int .i64 0,Da.int .i64 0,Da.str [],Da.slice 1 [],Da.slice 1 []]])[0]?) fun f6=>ag f6 fun e5=>cc 21 [.box 0 0,.p e5.e] (q.hpA 0) fun v W=>dU v W fun c0=>some (.tup [],(c0.hpA 0))) (none)) (none)) (none)) (some (.tup [],(q.hpA 0)))) (iL (az a.Op 14) (cc 53 [.box 0 0,pI 26] (c.hpA 0) fun w X=>dU w X fun c1=>some (.tup [],(c1.hpA 0))) (iL (az a.Op 15) (cc 54 [.box 0 0,.p a.e,pI 1] (c.hpA 0) fun x Z=>dU x Z fun c2=>some (.tup [],(c2.hpA 0))) (iL (az a.Op 16) (cc 54 [.box 0 0,.p a.e,pI 2] (c.hpA 0) fun y a0=>dU y a0 fun c3=>some (.tup [],(c3.hpA 0))) (iL (az a.Op 17) (cc 54 [.box 0 0,.p a.e,pI 3] (c.hpA 0) fun z a1=>dU z a1 fun c4=>some (.tup [],(c4.hpA 0))) (iL (az a.Op 18) (itL (fu cc n (fun(g3,f9,g0,f7,c5)=>some (.tup [],(c5.hpA 0)))) n (a.Kids,↑a.Kids.length,0,c)) (some (.tup [],(c.hpA 0))))))))))))))
def Dm (n:Nat)(c:Tn)(i:Int):=ij (fun cc=>rj cc n c i) 20 [.box 0 0,pI i] (c.hpA 0) 1 n bB (fun cc=>nA cc n) (fun hc=>bm (wO hc n) aH)
def xW (n:Nat)(l:LD)(z:Nat)(m:LD):R:=cc 37 [pL 5 l,.arr 0 0 z 1,.p (.fn 38 [])] [.arr m] fun b c=>dP b fun d=>aB d fun a=>aW [.arr m] c<|some (pB a,[.arr m])
def Lt (n:Nat)(l:LD)(z:Nat)(m:LD):=dG (fun cc=>xW cc n l z m) 15 [pL 5 l,.arr 0 0 z 1] [.arr m] 1 n bh
def Mu:=bU (eJ 37).body 1 0
abbrev t8:=Nat×LD×Int×Int×LD
def lO (n:Nat)(j:LD×ah->R)(l:Nat×LD×Int×Int×Bool×LD->R)(Y:t8->R):t8->R:=fun(e,d,b,a,c)=>iL (aP a b) (cL (bA d a) fun p=>ag p fun f=>iL (bw 0 a) (iL (aP a ↑e) (cL (c[0+Int.toNat a]?) fun q=>bg .i64 q fun i=>cc 38 [.p f.e,pI i] [] fun h m=>dP h fun o=>aB o fun g=>aj m<|iL (!g) (j (c,f)) (Y (e,d,b,aq .i64 (a+1),c))) (none)) (none)) (l (e,d,b,a,aP a b,c))
def Nf:Rd dT t8:= .tl<| .t 1 (.Ar 0 1)<| .v 2 (.P (.FP 38 .n))<| .l 15 5<| .i 16<| .i 17<| .h (.c .Oa .n)
def QG (J:JJ):=lO cc n (fun(a,b)=>J .ret (tB 6 false .nil) [.arr a,b.b]) (fun(a,b,c,d,e,f)=>J (.exit 0) (.cons 1 (.arr 0 0 a 1)<| .cons 2 (.p (.fn 38 []))<|tL 15 5 b<|tI 16 c<|tI 17 d<|tB 18 e .nil) [.arr f])
def Ag:cQ:=gm 1691 Nf (QG cc n) cK
def MQ {cc call}(hc:bF cc call)(n):bv (Ag cc n) call n 1 (1691,[1,2,15,16,17],Mu,true):=cE bh hc aH
def N4 (l:LD)(z:Nat)(m:LD):R:=iL (!az ↑l.length ↑z) (some (pB false,[.arr m])) (itL (lO cc n (fun(a,h)=>some (pB false,[.arr a])) (fun(g,f,d,e,c,b)=>some (pB true,[.arr b]))) n (z,l,↑l.length,0,m))
def Zi (n:Nat)(l:LD)(z:Nat)(m:LD):=ij (fun cc=>N4 cc n l z m) 37 [pL 5 l,.arr 0 0 z 1,.p (.fn 38 [])] [.arr m] 1 n bh (fun cc=>Ag cc n) (fun hc=>bm (MQ hc n) aH)
def Bh (n:Nat)(l:LD)(z:Nat)(m:LD):R:=cc 76 [pL 6 l,.fn 41 [.box 0 0]] [.box [.arr 1 0 z 1],.arr m] fun a c=>dP a fun d=>bg .i64 d fun b=>aW [.box [.arr 1 0 z 1],.arr m] c<|some (pB (bw 0 b),[.box [.arr 1 0 z 1],.arr m])
def QI (n:Nat)(l:LD)(z:Nat)(m:LD):=dG (fun cc=>Bh cc n l z m) 40 [pL 6 l,.fn 41 [.box 0 0]] [.box [.arr 1 0 z 1],.arr m] 2 n bh
def IC:=bU (eJ 76).body 1 0
abbrev qj:=LD×Int×Int×Nat×LD
def jQ (n:Nat)(h:Int×Nat×LD->R)(i:LD×Int×Int×Bool×Nat×LD->R)(Y:qj->R):qj->R:=fun(e,d,a,c,b)=>iL (aP a d) (cL (bA e a) fun o=>bQ o fun l=>cc 41 [.p l.e,.box 0 0] [.box [.arr 1 0 c 1],.arr b] fun g j=>dP g fun m=>aB m fun f=>aW [.box [.arr 1 0 c 1],.arr b] j<|iL f (h (a,c,b)) (Y (e,d,aq .i64 (a+1),c,b))) (i (e,d,a,aP a d,c,b))
def JN:Rd dT qj:= .tl<| .l 0 6<| .v 1 (.F 41 (.co 0 .n))<| .i 7<| .i 8<| .h (.c (.Ob (.c (.Ar 1 1) .n)) (.c .Oa .n))
def KR (J:JJ):=jQ cc n (fun(a,b,c)=>J .ret (tI 4 a .nil) [.box [.arr 1 0 b 1],.arr c]) (fun(a,b,c,d,e,f)=>J (.exit 0) (tL 0 6 a<| .cons 1 (.fn 41 [(.box 0 0)])<|tI 7 b<|tI 8 c<|tB 9 d .nil) [.box [.arr 1 0 e 1],.arr f])
def vN:cQ:=gm 411 JN (KR cc n) cK
def Ji {cc call}(hc:bF cc call)(n):bv (vN cc n) call n 2 (411,[0,1,7,8],IC,true):=cE bh hc aH
def Gm (l:LD)(z:Nat)(m:LD):R:=itL (jQ cc n (fun(a,d,b)=>some (pI a,[.box [.arr 1 0 d 1],.arr b])) (fun(i,g,h,f,e,c)=>some (pI (-1),[.box [.arr 1 0 e 1],.arr c]))) n (l,↑l.length,0,z,m)
def Uq (n:Nat)(l:LD)(z:Nat)(m:LD):=ij (fun cc=>Gm cc n l z m) 76 [pL 6 l,.fn 41 [.box 0 0]] [.box [.arr 1 0 z 1],.arr m] 2 n bh (fun cc=>vN cc n) (fun hc=>bm (Ji hc n) aH)
def xO (n:Nat)(x:dy)(z:Nat)(m:LD):R:=cc 15 [pL 5 x.Fields,.arr 0 0 z 1] [.arr m] fun b d=>dP b fun g=>aB g fun a=>aJ d fun f e=>f6 f fun c=>aj e<|some (pB (!a),[.box [.arr 1 0 z 1],.arr c])
def Ll (n:Nat)(x:dy)(z:Nat)(m:LD):=dG (fun cc=>xO cc n x z m) 41 [.p x.e,.box 0 0] [.box [.arr 1 0 z 1],.arr m] 2 n bh
def ID:=bU (eJ 16).body 1 0
abbrev qk:=LD×LD×Int×Int×Nat×LD
def hP (cc:ab)(n:Nat)(h:LD×LD×Int×Int×Bool×Nat×LD->R)(Y:qk->R):qk->R:=fun(f,d,c,a,g,b)=>iL (aP a c) (cL (bA d a) fun i=>cq i fun e=>iL (Nat.beq g (List.length b)) (iL (ce (List.length b+List.length [Da.int .i64 e.Kind]) 8) (Y (f,d,c,aq .i64 (a+1),List.length (b++[Da.int .i64 e.Kind]),b++[Da.int .i64 e.Kind])) (none)) (none)) (h (f,d,c,a,aP a c,g,b))
def JO:Rd dT qk:= .tl<| .l 1 6<| .o 5 0<| .l 21 7<| .i 22<| .i 23<| .h (.c (.Ob (.c (.Ar 1 1) .n)) (.c .Oa .n))
def KS (J:JJ):=hP cc n (fun(a,b,c,d,e,f,g)=>J (.exit 0) (tL 1 6 a<|tO 5 0<|tL 21 7 b<|tI 22 c<|tI 23 d<|tB 24 e .nil) [.box [.arr 1 0 f 1],.arr g])
def vO:cQ:=gm 27247 JO (KS cc n) cK
def Jj {cc call}(hc:bF cc call)(n):bv (vO cc n) call n 0 (27247,[1,5,21,22,23],ID,true):=cE bh hc aH
def Gn (e:ae)(b:LD):R:=iL (az (↑b.length) 0) rF (cL (bA b 0) fun o=>bQ o fun a=>cc 39 [.p (.agg [.int .i64 a.Reply_Kind,.int .i64 a.Reply_N,.str a.Reply_S,.slice 1 a.Reply_I,.slice 1 a.Reply_L]),.p (.agg [.int .i64 0,.int .i64 0,.str [],.slice 1 [],.slice 1 []])] [] fun i m=>dP i fun q=>aB q fun g=>aj m<|iL (!g) rF (itL (hP cc n (fun(j,u,s,t,r,d,c)=>cc 40 [pL 6 j,.fn 41 [.box 0 0]] [.box [.arr 1 0 d 1],.arr c] fun h l=>dP h fun p=>aB p fun f=>aW [.box [.arr 1 0 d 1],.arr c] l<|some (pB (!f),[]))) n (b,e.Fields,↑e.Fields.length,0,0,[])))
def Ur (n:Nat)(a:ae)(b:LD):=ij (fun cc=>Gn cc n a b) 16 [.p a.e,pL 6 b] [] 0 n bh (fun cc=>vO cc n) (fun hc=>bm (Jj hc n) aH)
def Ej:=bU (eJ 33).body 1 0
abbrev nK:=LD×Int×Int×LN
def iM (n:Nat)(g:Int×(LN)->R)(h:LD×Int×Int×Bool×(LN)->R)(Y:nK->R):nK->R:=fun(d,c,a,b)=>iL (aP a c) (cL (bA d a) fun l=>bq l fun j=>cc 34 [.p j.e,.box 0 0] [.box [pS b]] fun f i=>dP f fun m=>aB m fun e=>aW [.box [pS b]] i<|iL e (g (a,b)) (Y (d,c,aq .i64 (a+1),b))) (h (d,c,a,aP a c,b))
def Fv:Rd dT nK:= .tl<| .l 0 3<| .v 1 (.F 34 (.co 0 .n))<| .i 7<| .i 8<| .h (.c (.Ob (.cs .n)) .n)
def G7 (J:JJ):=iM cc n (fun(a,b)=>J .ret (tI 4 a .nil) [.box [pS b]]) (fun(a,b,c,d,e)=>J (.exit 0) (tL 0 3 a<| .cons 1 (.fn 34 [(.box 0 0)])<|tI 7 b<|tI 8 c<|tB 9 d .nil) [.box [pS e]])
def th:cQ:=gm 411 Fv (G7 cc n) cK
def EU {cc call}(hc:bF cc call)(n):bv (th cc n) call n 1 (411,[0,1,7,8],Ej,true):=cE bh hc aH
def Bj (l:LD)(s:LN):R:=itL (iM cc n (fun(a,b)=>some (pI a,[.box [pS b]])) (fun(g,e,f,d,c)=>some (pI (-1),[.box [pS c]]))) n (l,↑l.length,0,s)
def QK (n:Nat)(l:LD)(s:LN):=ij (fun cc=>Bj cc n l s) 33 [pL 3 l,.fn 34 [.box 0 0]] [.box [pS s]] 1 n bh (fun cc=>th cc n) (fun hc=>bm (EU hc n) aH)
def Ei:=bU (eJ 35).body 1 0
abbrev nJ:=LD×Int×Int×LN
def iK (n:Nat)(g:Int×(LN)->R)(h:LD×Int×Int×Bool×(LN)->R)(Y:nJ->R):nJ->R:=fun(d,c,a,b)=>iL (aP a c) (cL (bA d a) fun l=>bM l fun j=>cc 36 [.p j.e,.box 0 0] [.box [pS b]] fun f i=>dP f fun m=>aB m fun e=>aW [.box [pS b]] i<|iL e (g (a,b)) (Y (d,c,aq .i64 (a+1),b))) (h (d,c,a,aP a c,b))
def Fu:Rd dT nJ:= .tl<| .l 0 4<| .v 1 (.F 36 (.co 0 .n))<| .i 7<| .i 8<| .h (.c (.Ob (.cs .n)) .n)
def G6 (J:JJ):=iK cc n (fun(a,b)=>J .ret (tI 4 a .nil) [.box [pS b]]) (fun(a,b,c,d,e)=>J (.exit 0) (tL 0 4 a<| .cons 1 (.fn 36 [(.box 0 0)])<|tI 7 b<|tI 8 c<|tB 9 d .nil) [.box [pS e]])
def tg:cQ:=gm 411 Fu (G6 cc n) cK
def ET {cc call}(hc:bF cc call)(n):bv (tg cc n) call n 1 (411,[0,1,7,8],Ei,true):=cE bh hc aH
def Bi (l:LD)(s:LN):R:=itL (iK cc n (fun(a,b)=>some (pI a,[.box [pS b]])) (fun(g,e,f,d,c)=>some (pI (-1),[.box [pS c]]))) n (l,↑l.length,0,s)
def QJ (n:Nat)(l:LD)(s:LN):=ij (fun cc=>Bi cc n l s) 35 [pL 4 l,.fn 36 [.box 0 0]] [.box [pS s]] 1 n bh (fun cc=>tg cc n) (fun hc=>bm (ET hc n) aH)
def tX (n:Nat)(c:au)(d:LN)(e:LN):R:=cc 33 [pL 3 c.Types,.fn 34 [.box 0 0]] [.box [pS d]] fun f h=>dP f fun l=>bg .i64 l fun a=>aW [.box [pS d]] h<|iL (aP a 0) (some (.tup [.p (.agg [.int .i64 0,.int .i64 0,.int .i64 0]),pB false],[])) (cL (bA c.Types a) fun m=>bq m fun j=>cc 35 [pL 4 j.Methods,.fn 36 [.box 0 0]] [.box [pS e]] fun g i=>dP g fun o=>bg .i64 o fun b=>aW [.box [pS e]] i<|some (.tup [.p (.agg [.int .i64 a,.int .i64 b,.int .i64 0]),pB (bw 0 b)],[]))
def BS (n:Nat)(a:au)(b:LN)(c:LN):=dG (fun cc=>tX cc n a b c) 14 [.p a.e,pS b,pS c] [] 0 n bh
def KI (cc:ab)(n:Nat)(x:ae)(s:LN):R:=some (pB (be x.Name s),[.box [pS s]])
def Li (n:Nat)(x:ae)(s:LN):=dG (fun cc=>KI cc n x s) 34 [.p x.e,.box 0 0] [.box [pS s]] 1 n bh
def KJ (cc:ab)(n:Nat)(x:aA)(s:LN):R:=some (pB (be x.Name s),[.box [pS s]])
def Lj (n:Nat)(x:aA)(s:LN):=dG (fun cc=>KJ cc n x s) 36 [.p x.e,.box 0 0] [.box [pS s]] 1 n bh
def Sh:=bU (eJ 7).body 1 0
def Si:=bU (eJ 7).body 1 1
def Sj:=bU (eJ 7).body 1 2
abbrev xY:=LN×LD×LD×Int×Nat×LD×Int×Int×fH×bb×ae×aA×LD
def lN (cc:ab)(n:Nat)(q:(LN)×LD×LD×Int×Nat×LD×Int×Int×Bool×fH×bb×ae×aA×LD->R)(Y:xY->R):xY->R:=fun(j,g,h,f,i,d,c,a,l,m,o,p,b)=>iL (aP a c) (cL (bA d a) fun r=>cR r fun e=>iL (Nat.beq i (List.length b)) (iL (ce (List.length b+List.length [Da.int .i64 e.Kind]) 8) (Y (j,g,h,f,List.length (b++[Da.int .i64 e.Kind]),d,c,aq .i64 (a+1),l,m,o,p,b++[Da.int .i64 e.Kind])) (none)) (none)) (q (j,g,h,f,i,d,c,a,aP a c,l,m,o,p,b))
def SM:Rd dT xY:= .rm (.s 3<| .l 4 5<| .l 5 6<| .i 6<| .o 16 0<| .o 19 2<| .o 21 3<| .o 22 4<| .t 23 (.Ar 5 1)<| .l 59 2<| .i 60<| .i 61<| .h (.c (.Ob (.cl 3<| .c (.Ar 1 1) .n)) (.c .Oa<| .c (.Ob (.ci<| .ci<| .ci .n)) (.c (.Ob (.cs<| .cl 7<| .cl 4 .n)) (.c (.Ob (.cs<| .cl 2<| .ci<| .cl 8 .n)) (.c .Oa .n)))))) (fun(o,(p,(A,(D,(E,(F,(G,(H,((I,(J,())),(q,((r,(s,(t,()))),((u,(v,(w,()))),((x,(y,(z,(B,())))),(C,()))))))))))))))=>(o,p,A,D,E,F,G,H,(fH.mk I J q),(bb.mk r s t),(ae.mk u v w),(aA.mk x y z B),C)) (fun(e,f,h,i,j,l,m,n,c,d,b,a,g)=>(e,(f,(h,(i,(j,(l,(m,(n,((c.ty,(c.bn,())),(c.bs,((d.Type_,(d.Method,(d.Node,()))),((b.Name,(b.Fields,(b.Methods,()))),((a.Name,(a.Params,(a.Result,(a.Nodes,())))),(g,())))))))))))))))
def Uf (J:JJ):=lN cc n (fun(b,c,h,i,j,l,m,o,p,a,d,e,f,g)=>J (.exit 0) (tS 3 b<|tL 4 5 c<|tL 5 6 h<|tI 6 i<|tO 16 0<|tO 19 2<|tO 21 3<|tO 22 4<| .cons 23 (.arr 5 0 j 1)<|tL 59 2 l<|tI 60 m<|tI 61 o<|tB 62 p .nil) [.box [pL 3 a.ty,.arr 1 0 a.bn 1],.arr a.bs,d.b,e.b,f.b,.arr g])
def CN:cQ:=gm 27961967 SM (Uf cc n) cK
def Sw {cc call}(hc:bF cc call)(n):bv (CN cc n) call n 0 (27961967,[3,4,5,6,16,19,21,22,23,59,60,61],Sh,true):=cE bB hc aH
abbrev GX:=LN×LD×LD×Int×fH×bb×ae×aA
def nT (n:Nat)(e:(LN)×LD×LD×Int×Bool×fH×bb×ae×aA->R):GX->R:=fun(c,f,b,a,g,h,d,i)=>iL (aP 32 ↑c.length) (e (c,f,b,a,true,g,h,d,i)) (cc 16 [.p d.e,pL 6 b] [] fun l m=>dP l fun o=>aB o fun j=>aj m<|iL (!j) (e (c,f,b,a,true,g,h,d,i)) (iL (aP a 0) (e (c,f,b,a,true,g,h,d,i)) (e (c,f,b,a,aP 20000 a,g,h,d,i))))
def SN:Rd dT GX:= .rm (.s 3<| .l 4 5<| .l 5 6<| .i 6<| .o 16 0<| .o 19 2<| .o 21 3<| .o 22 4<| .h (.c (.Ob (.cl 3<| .c (.Ar 1 1) .n)) (.c .Oa<| .c (.Ob (.ci<| .ci<| .ci .n)) (.c (.Ob (.cs<| .cl 7<| .cl 4 .n)) (.c (.Ob (.cs<| .cl 2<| .ci<| .cl 8 .n)) .n))))) (fun(i,(j,(s,(t,((u,(v,())),(w,((x,(y,(z,()))),((l,(m,(n,()))),((o,(p,(q,(r,())))),())))))))))=>(i,j,s,t,(fH.mk u v w),(bb.mk x y z),(ae.mk l m n),(aA.mk o p q r))) (fun(e,f,g,h,b,c,d,a)=>(e,(f,(g,(h,((b.ty,(b.bn,())),(b.bs,((c.Type_,(c.Method,(c.Node,()))),((d.Name,(d.Fields,(d.Methods,()))),((a.Name,(a.Params,(a.Result,(a.Nodes,())))),()))))))))))
def Ug (J:JJ):=nT cc n (fun(b,c,d,e,f,a,g,h,i)=>J .norm (tS 3 b<|tL 4 5 c<|tL 5 6 d<|tI 6 e<|tO 16 0<|tO 19 2<|tO 21 3<|tO 22 4<|tB 76 f .nil) [.box [pL 3 a.ty,.arr 1 0 a.bn 1],.arr a.bs,g.b,h.b,i.b])
def CO:cQ:=xn 447392233 SN (Ug cc n) (CN cc n)
def Sx {cc call}(hc:bF cc call)(n):bv (CO cc n) call n 0 (447392233,[3,4,5,6,16,19,21,22],Si,false):=lX bB hc aH
abbrev GY:=LN×LD×LD×Int×Nat×fH×bb×ae×aA×LD
def S_iRun_3 (n:Nat)(e:(LN)×LD×Int×Nat×fH×bb×ae×aA×LD->R):GY->R:=fun(h,p,f,d,c,i,j,l,m,g)=>cc 18 [pL 5 p] [] fun o r=>gt 0 5 o fun q b=>iL (Nat.beq q 0) (aJ r fun t s=>f6 t fun a=>aj s<|iL (List.isEmpty (List.take b (List.drop 0 a))) (e (h,f,d,c,i,j,l,m,g)) (iL (Nat.ble (List.length (List.take b (List.drop 0 a))) c) (e (h,f,d,c,i,j,l,m,splice g 0 (List.take b (List.drop 0 a)))) (none))) (none)
def SO:Rd dT GY:= .rm (.s 3<| .l 4 5<| .l 5 6<| .i 6<| .o 16 0<| .o 19 2<| .o 21 3<| .o 22 4<| .t 26 (.Ar 5 5)<| .h (.c (.Ob (.cl 3<| .c (.Ar 1 1) .n)) (.c .Oa<| .c (.Ob (.ci<| .ci<| .ci .n)) (.c (.Ob (.cs<| .cl 7<| .cl 4 .n)) (.c (.Ob (.cs<| .cl 2<| .ci<| .cl 8 .n)) (.c .Oa .n)))))) (fun(l,(m,(w,(x,(y,((z,(A,())),(B,((C,(D,(n,()))),((o,(p,(q,()))),((r,(s,(t,(u,())))),(v,())))))))))))=>(l,m,w,x,y,(fH.mk z A B),(bb.mk C D n),(ae.mk o p q),(aA.mk r s t u),v)) (fun(e,f,g,h,i,b,c,d,a,j)=>(e,(f,(g,(h,(i,((b.ty,(b.bn,())),(b.bs,((c.Type_,(c.Method,(c.Node,()))),((d.Name,(d.Fields,(d.Methods,()))),((a.Name,(a.Params,(a.Result,(a.Nodes,())))),(j,()))))))))))))
def Uh (J:JJ):=S_iRun_3 cc n (fun(b,c,d,e,a,f,g,h,i)=>J .norm (tS 3 b<|tL 5 6 c<|tI 6 d<|tO 16 0<|tO 19 2<|tO 21 3<|tO 22 4<| .cons 26 (.arr 5 0 e 5) .nil) [.box [pL 3 a.ty,.arr 1 0 a.bn 1],.arr a.bs,f.b,g.b,h.b,.arr i])
def CP:cQ:=xn 27962025 SO (Uh cc n) (CO cc n)
def SA {cc call}(hc:bF cc call)(n):bv (CP cc n) call n 0 (27962025,[3,4,5,6,16,19,21,22,26],Sj,false):=lX bB hc aH
def T7 (e:au)(p1:LN)(p2:LN)(p3:LN)(p4:LD)(p5:LD)(p6:Int):R:=cc 13 [.p e.e] [] fun w p=>ba w fun r3=>aJ r3 fun d r5=>aJ r5 fun F r7=>dP F fun x8=>gv x8 fun u9=>aJ r7 fun x b0=>dP x fun c=>aj b0<|iL (D6 d) (wu 0 0 d<|HX .i64 0 c<|ON p fun c1=>cc 14 [.p e.e,pS p1,pS p2] [] fun B a0=>ba B fun b1=>aJ b1 fun C b2=>dP C fun d0=>gv d0 fun i=>aJ b2 fun D b3=>dP D fun d2=>aB d2 fun t=>aj b3<|aj a0<|iL (!t) (some (.tup [pL 18 [],pI 14],[])) (cL (bA e.Types i.Type_) fun d3=>bq d3 fun s=>cL (bA s.Methods i.Method) fun d5=>bM d5 fun j=>itL (lN cc n (fun(b8,o,M,I,V,e3,e1,e2,e0,c2,c3,c4,c5,N)=>cc 15 [pL 5 o,.arr 0 0 V 1] [.arr N] fun E a1=>dP E fun d7=>aB d7 fun u=>aJ a1 fun c6 a2=>f6 c6 fun e4=>aj a2<|iL (!u) (some (.tup [pL 18 [],pI 15],[])) (nT cc n (fun(b9,O,P,J,v,l,m,c7,c8)=>iL v (some (.tup [pL 18 [],pI 1],[])) (cc 17 [.box 0 0,pI m.Type_,pI m.Method] l.hp fun G a3=>dP G fun d9=>DE 2 d9 fun a=>aW l.hp a3<|iL (bw 0 ↑a.length&&bw ↑a.length ↑a.length&&Nat.ble (Int.toNat ↑a.length*80) 281474976710656&&bw (↑a.length) 9223372036854775807) (S_iRun_3 cc n (fun(b7,K,H,S,f,g,h,q,L)=>cc 19 [.box 0 0] (Tn.hpA 0 ⟨h.Name,h.Fields,h.Methods,g.Type_,g.Method,g.Node,q.Nodes,b7,K,0,0,S,0,H,0,0,false,f.ty,f.bn,f.bs,false,[],L,false,[],[]⟩) fun y W=>dU y W fun c0=>cc 20 [.box 0 0,pI (aq .i64 (↑q.Nodes.length - 1))] (c0.hpA 0) fun z X=>dU z X fun b=>iL (!b.sd) (cc 21 [.box 0 0,.p (.agg [.int .i64 0,.int .i64 0,.str [],.slice 1 [],.slice 1 []])] (b.hpA 0) fun A Z=>dU A Z fun r=>some (.tup [pL 18 (List.take r.sn (List.drop 0 r.sg)),pI 0],[])) (some (.tup [pL 18 (List.take b.sn (List.drop 0 b.sg)),pI 0],[]))) (b9,O,P,J,Int.toNat ↑a.length,l,m,c7,c8,List.replicate (Int.toNat ↑a.length) (Da.agg [Da.int .i64 0,Da.int .i64 0,Da.str [],Da.slice 1 [],Da.slice 1 []]))) (none))) (b8,o,M,I,c2,c3,c4,c5)))) n (p3,p4,p5,p6,0,j.Params,↑j.Params.length,0,c1,i,s,j,[]))) (dP d fun c9=>dNp c9<|aj p<|iL (aaR c) (dPs c fun T=>some (.tup [pL 18 [],pI (Int.ofNat (T+1))],[])) (dNg c fun U=>some (.tup [pL 18 [],pI (Int.negSucc U)],[])))
def Š (n:Nat)(a:au)(b:LN)(c:LN)(d:LN)(e:LD)(f:LD)(g:Int):=ij (fun cc=>T7 cc n a b c d e f g) 7 [.p a.e,pS b,pS c,pS d,pL 5 e,pL 6 f,pI g] [] 0 n bB (fun cc=>CP cc n) (fun hc=>bm (gN (gN (Sw hc n))) (bm (gN (Sx hc n)) (bm (SA hc n) aH)))
def Gt (n:Nat)(a:ah)(b:ah):R:=iL (az a.Kind b.Kind) (iL (az a.N b.N) (iL (be a.S b.S) (cc 57 [pL 1 a.I,pL 1 b.I] [] fun e g=>dP e fun i=>aB i fun c=>aj g<|iL c (cc 58 [pL 1 a.L,pL 1 b.L] [] fun f h=>dP f fun j=>aB j fun d=>aj h<|some (pB d,[])) rF) rF) rF) rF
def Ux (n:Nat)(a:ah)(b:ah):=dG (fun cc=>Gt cc n a b) 23 [.p a.e,.p b.e] [] 0 n bh
def IE:=bU (eJ 57).body 1 0
abbrev ql:=LD×LD×Int
def mI (cc:ab)(n:Nat)(f:R)(g:LD×LD×Int×Bool->R)(Y:ql->R):ql->R:=fun(b,c,a)=>iL (aP a ↑b.length) (cL (bA b a) fun h=>bg .i64 h fun d=>cL (bA c a) fun i=>bg .i64 i fun e=>iL (!az d e) (f) (Y (b,c,aq .i64 (a+1)))) (g (b,c,a,aP a ↑b.length))
def JP:Rd dT ql:= .tl<| .l 0 1<| .l 1 1<| .i 5<| .h .n
def KT (J:JJ):=mI cc n (J .ret (tB 4 false .nil) []) (fun(a,b,c,d)=>J (.exit 0) (tL 0 1 a<|tL 1 1 b<|tI 5 c<|tB 14 d .nil) [])
def vP:cQ:=gm 1691 JP (KT cc n) cK
def Jk {cc call}(hc:bF cc call)(n):bv (vP cc n) call n 0 (1691,[0,1,5],IE,true):=cE bh hc aH
def Gr (a:LD)(b:LD):R:=iL (!az ↑a.length ↑b.length) rF (itL (mI cc n rF (fun(e,f,d,c)=>rT)) n (a,b,0))
def Uv (n:Nat)(a:LD)(b:LD):=ij (fun cc=>Gr cc n a b) 57 [pL 1 a,pL 1 b] [] 0 n bh (fun cc=>vP cc n) (fun hc=>bm (Jk hc n) aH)
def IF:=bU (eJ 58).body 1 0
abbrev qm:=LD×LD×Int
def mJ (cc:ab)(n:Nat)(d:R)(e:LD×LD×Int×Bool->R)(Y:qm->R):qm->R:=fun(b,c,a)=>iL (aP a ↑b.length) (cL (bA b a) fun h=>ja h fun f=>cL (bA c a) fun i=>ja i fun g=>iL (!be f g) (d) (Y (b,c,aq .i64 (a+1)))) (e (b,c,a,aP a ↑b.length))
def JQ:Rd dT qm:= .tl<| .l 0 1<| .l 1 1<| .i 5<| .h .n
def KU (J:JJ):=mJ cc n (J .ret (tB 4 false .nil) []) (fun(a,b,c,d)=>J (.exit 0) (tL 0 1 a<|tL 1 1 b<|tI 5 c<|tB 14 d .nil) [])
def vQ:cQ:=gm 1691 JQ (KU cc n) cK
def Jl {cc call}(hc:bF cc call)(n):bv (vQ cc n) call n 0 (1691,[0,1,5],IF,true):=cE rJ hc aH
def Gs (a:LD)(b:LD):R:=iL (!az ↑a.length ↑b.length) rF (itL (mJ cc n rF (fun(e,f,d,c)=>rT)) n (a,b,0))
def Uw (n:Nat)(a:LD)(b:LD):=ij (fun cc=>Gs cc n a b) 58 [pL 1 a,pL 1 b] [] 0 n rJ (fun cc=>vQ cc n) (fun hc=>bm (Jl hc n) aH)
def En:=bU (eJ 9).body 1 0
abbrev nP:=LD×LD×Int
def kJ (n:Nat)(f:R)(g:LD×LD×Int×Bool->R)(Y:nP->R):nP->R:=fun(b,c,a)=>iL (aP a ↑b.length) (cL (bA b a) fun m=>ag m fun i=>cL (bA c a) fun o=>ag o fun j=>cc 23 [.p i.e,.p j.e] [] fun e h=>dP e fun l=>aB l fun d=>aj h<|iL (!d) (f) (Y (b,c,aq .i64 (a+1)))) (g (b,c,a,aP a ↑b.length))
def FB:Rd dT nP:= .tl<| .l 0 5<| .l 1 5<| .i 5<| .h .n
def Hc (J:JJ):=kJ cc n (J .ret (tB 4 false .nil) []) (fun(a,b,c,d)=>J (.exit 0) (tL 0 5 a<|tL 1 5 b<|tI 5 c<|tB 14 d .nil) [])
def tv:cQ:=gm 1691 FB (Hc cc n) cK
def EZ {cc call}(hc:bF cc call)(n):bv (tv cc n) call n 0 (1691,[0,1,5],En,true):=cE bh hc aH
def Br (a:LD)(b:LD):R:=iL (!az ↑a.length ↑b.length) rF (itL (kJ cc n rF (fun(e,f,d,c)=>rT)) n (a,b,0))
def QR (n:Nat)(a:LD)(b:LD):=ij (fun cc=>Br cc n a b) 9 [pL 5 a,pL 5 b] [] 0 n bh (fun cc=>tv cc n) (fun hc=>bm (EZ hc n) aH)
def acD (n:Nat)(p0_Type:Int)(p0_Method:Int)(p0_PC:Int)(p0_Locals:LD)(p1_Type:Int)(p1_Method:Int)(p1_PC:Int)(p1_Locals:LD):R:=iL (az p0_Type p1_Type) (iL (az p0_Method p1_Method) (iL (az p0_PC p1_PC) (cc 9 [pL 5 p0_Locals,pL 5 p1_Locals] [] fun b c=>dP b fun d=>aB d fun a=>aj c<|some (pB a,[])) rF) rF) rF
def acX (n:Nat)(p0_Type:Int)(p0_Method:Int)(p0_PC:Int)(p0_Locals:LD)(p1_Type:Int)(p1_Method:Int)(p1_PC:Int)(p1_Locals:LD):=dG (fun cc=>acD cc n p0_Type p0_Method p0_PC p0_Locals p1_Type p1_Method p1_PC p1_Locals) 56 [.p (.agg [.int .i64 p0_Type,.int .i64 p0_Method,.int .i64 p0_PC,.slice 5 p0_Locals]),.p (.agg [.int .i64 p1_Type,.int .i64 p1_Method,.int .i64 p1_PC,.slice 5 p1_Locals])] [] 0 n bh
def acJ:=bU (eJ 55).body 1 0
abbrev ack:=Int×c8×c8
def acg (cc:ab)(n:Nat)(d:c8×c8->R)(g:Int×Bool×c8×c8->R)(Y:ack->R):ack->R:=fun(c,a,b)=>iL (aP c ↑a.Effects.length) (cL (bA a.Effects c) fun h=>rI h fun e=>cL (bA b.Effects c) fun i=>rI i fun f=>iL (az e.Kind f.Kind) (iL (be e.Name f.Name) (iL (az e.A f.A) (iL (az e.B f.B) (Y (aq .i64 (c+1),a,b)) (d (a,b))) (d (a,b))) (d (a,b))) (d (a,b))) (g (c,aP c ↑a.Effects.length,a,b))
def acL:Rd dT ack:= .rm (.o 2 0<| .o 3 1<| .i 5<| .h (.c (.Ob (.ci<| .ci<| .ci<| .cs<| .cl 1<| .cl 1<| .cs<| .cs<| .cs<| .cl 5<| .ci<| .ci<| .ci<| .ci<| .cl 5<| .cl 5<| .cl 4<| .ci .n)) (.c (.Ob (.ci<| .ci<| .ci<| .cs<| .cl 1<| .cl 1<| .cs<| .cs<| .cs<| .cl 5<| .ci<| .ci<| .ci<| .ci<| .cl 5<| .cl 5<| .cl 4<| .ci .n)) .n))) (fun(d,((e,(q,(B,(J,(K,(L,(M,(N,(O,(f,(g,(h,(i,(j,(l,(m,(n,(o,())))))))))))))))))),((p,(r,(s,(t,(u,(v,(w,(x,(y,(z,(A,(C,(D,(E,(F,(G,(H,(I,())))))))))))))))))),())))=>(d,(c8.mk e q B J K L M N O f g h i j l m n o),(c8.mk p r s t u v w x y z A C D E F G H I))) (fun(c,a,b)=>(c,((a.Kind,(a.Value_Kind,(a.Value_N,(a.Value_S,(a.Value_I,(a.Value_L,(a.Call_Target_Type,(a.Call_Target_Key,(a.Call_Method,(a.Call_Args,(a.Err,(a.Machine_Type,(a.Machine_Method,(a.Machine_PC,(a.Machine_Locals,(a.Fields,(a.Effects,(a.Fuel,())))))))))))))))))),((b.Kind,(b.Value_Kind,(b.Value_N,(b.Value_S,(b.Value_I,(b.Value_L,(b.Call_Target_Type,(b.Call_Target_Key,(b.Call_Method,(b.Call_Args,(b.Err,(b.Machine_Type,(b.Machine_Method,(b.Machine_PC,(b.Machine_Locals,(b.Fields,(b.Effects,(b.Fuel,())))))))))))))))))),()))))
def acM (J:JJ):=acg cc n (fun(a,b)=>J .ret (tB 4 false .nil) [a.b,b.b]) (fun(a,b,c,d)=>J (.exit 0) (tO 2 0<|tO 3 1<|tI 5 a<|tB 75 b .nil) [c.b,d.b])
def acs:cQ:=gm 1691 acL (acM cc n) cK
def acK {cc call}(hc:bF cc call)(n):bv (acs cc n) call n 0 (1691,[2,3,5],acJ,true):=cE acR hc aH
def acE (a:c8)(b:c8):R:=iL (!az a.Kind b.Kind) rF (cc 23 [.p (.agg [.int .i64 a.Value_Kind,.int .i64 a.Value_N,.str a.Value_S,.slice 1 a.Value_I,.slice 1 a.Value_L]),.p (.agg [.int .i64 b.Value_Kind,.int .i64 b.Value_N,.str b.Value_S,.slice 1 b.Value_I,.slice 1 b.Value_L])] [] fun f j=>dP f fun o=>aB o fun d=>aj j<|iL (!d) rF (iL (be a.Call_Target_Type b.Call_Target_Type) (iL (be a.Call_Target_Key b.Call_Target_Key) (iL (!be a.Call_Method b.Call_Method) rF (cc 9 [pL 5 a.Call_Args,pL 5 b.Call_Args] [] fun g l=>dP g fun p=>aB p fun e=>aj l<|iL (!e) rF (iL (!az a.Err b.Err) rF (cc 9 [pL 5 a.Fields,pL 5 b.Fields] [] fun h i=>dP h fun m=>aB m fun c=>aj i<|iL (!c) rF (iL (!az ↑a.Effects.length ↑b.Effects.length) rF (itL (acg cc n (fun(s,t)=>rF) (fun(r,q,u,v)=>rT)) n (0,a,b))))))) rF) rF))
def acY (n:Nat)(a:c8)(b:c8):=ij (fun cc=>acE cc n a b) 55 [.p a.e,.p b.e] [] 0 n acR (fun cc=>acs cc n) (fun hc=>bm (acK hc n) aH)
def acx (n:Nat)(a:c8)(b:c8):R:=cc 55 [.p a.e,.p b.e] [] fun e g=>dP e fun i=>aB i fun c=>aj g<|iL c (cc 56 [.p (.agg [.int .i64 a.Machine_Type,.int .i64 a.Machine_Method,.int .i64 a.Machine_PC,.slice 5 a.Machine_Locals]),.p (.agg [.int .i64 b.Machine_Type,.int .i64 b.Machine_Method,.int .i64 b.Machine_PC,.slice 5 b.Machine_Locals])] [] fun f h=>dP f fun j=>aB j fun d=>aj h<|iL d (some (pB (az a.Fuel b.Fuel),[])) rF) rF
def acU (n:Nat)(a:c8)(b:c8):=dG (fun cc=>acx cc n a b) 22 [.p a.e,.p b.e] [] 0 n bh
def acN:=bU (eJ 8).body 1 0
abbrev acq:=LD×LD×Int
def ach (n:Nat)(f:R)(g:LD×LD×Int×Bool->R)(Y:acq->R):acq->R:=fun(b,c,a)=>iL (aP a ↑b.length) (cL (bA b a) fun m=>aY m fun i=>cL (bA c a) fun o=>aY o fun j=>cc 22 [.p i.e,.p j.e] [] fun e h=>dP e fun l=>aB l fun d=>aj h<|iL (!d) (f) (Y (b,c,aq .i64 (a+1)))) (g (b,c,a,aP a ↑b.length))
def acP:Rd dT acq:= .tl<| .l 0 18<| .l 1 18<| .i 5<| .h .n
def acT (J:JJ):=ach cc n (J .ret (tB 4 false .nil) []) (fun(a,b,c,d)=>J (.exit 0) (tL 0 18 a<|tL 1 18 b<|tI 5 c<|tB 14 d .nil) [])
def acv:cQ:=gm 1691 acP (acT cc n) cK
def acO {cc call}(hc:bF cc call)(n):bv (acv cc n) call n 0 (1691,[0,1,5],acN,true):=cE bh hc aH
def acQ (a:LD)(b:LD):R:=iL (!az ↑a.length ↑b.length) rF (itL (ach cc n rF (fun(e,f,d,c)=>rT)) n (a,b,0))
def ac6 (n:Nat)(a:LD)(b:LD):=ij (fun cc=>acQ cc n a b) 8 [pL 18 a,pL 18 b] [] 0 n bh (fun cc=>acv cc n) (fun hc=>bm (acO hc n) aH)
def qO:=bU (eJ 11).body 1 0
def Mj:=bU qO 6811 0
def zi:=bU qO 6811 1
def Mk:=bU zi 446406315 0
abbrev lJ:=Int×Int×Int×au×ae
def BO (n:Nat)(g:au×ae->R)(j:lJ->R)(Y:lJ->R):lJ->R:=fun(e,f,b,d,a)=>iL (aP b ↑a.Fields.length) (cL (bA a.Fields b) fun o=>cq o fun m=>iL (aP 100 ↑m.Name.length) (g (d,a)) (cL (bA a.Fields b) fun p=>cq p fun c=>cc 26 [.p (.agg [.int .i64 c.Init_Kind,.int .i64 c.Init_N,.str c.Init_S,.slice 1 c.Init_I,.slice 1 c.Init_L])] [] fun i l=>dP i fun q=>aB q fun h=>aj l<|iL h (Y (e,f,aq .i64 (b+1),d,a)) (g (d,a)))) (j (e,f,b,d,a))
def M1:Rd dT lJ:= .tl<| .o 1 0<| .i 3<| .i 4<| .o 5 1<| .i 6<| .h (.c (.Ob (.cl 3 .n))<| .c (.Ob (.cs<| .cl 7<| .cl 4 .n)) .n)
def Qt (J:JJ):=BO cc n (fun(a,b)=>J .ret (tB 2 false .nil) [a.b,b.b]) (fun(a,b,c,d,e)=>J (.exit 2) (tO 1 0<|tI 3 a<|tI 4 b<|tO 5 1<|tI 6 c<|tB 46 false .nil) [d.b,e.b])
def zU:cQ:=gm 446406299 M1 (Qt cc n) cK
def MD {cc call}(hc:bF cc call)(n):bv (zU cc n) call n 0 (446406299,[1,3,4,5,6],Mj,true):=cE aL hc aH
abbrev lL:=Int×Int×Int×Int×au×ae×aA
def oU (n:Nat)(f:au×ae×aA->R)(m:lL->R)(Y:lL->R):lL->R:=fun(g,h,i,b,c,d,a)=>iL (aP b ↑a.Nodes.length) (cL (bA a.Nodes b) fun r=>bf r fun p=>iL (aP 100 ↑p.Name.length) (f (c,d,a)) (cL (bA a.Nodes b) fun s=>bf s fun q=>iL (aP 60 ↑q.Kids.length) (f (c,d,a)) (cL (bA a.Nodes b) fun t=>bf t fun e=>cc 26 [.p (.agg [.int .i64 e.Value_Kind,.int .i64 e.Value_N,.str e.Value_S,.slice 1 e.Value_I,.slice 1 e.Value_L])] [] fun l o=>dP l fun u=>aB u fun j=>aj o<|iL j (Y (g,h,i,aq .i64 (b+1),c,d,a)) (f (c,d,a))))) (m (g,h,i,b,c,d,a))
def M3:Rd dT lL:= .tl<| .o 1 0<| .i 3<| .i 4<| .o 5 1<| .i 7<| .o 8 2<| .i 9<| .h (.c (.Ob (.cl 3 .n))<| .c (.Ob (.cs<| .cl 7<| .cl 4 .n)) (.c (.Ob (.cs<| .cl 2<| .ci<| .cl 8 .n)) .n))
def Qv (J:JJ):=oU cc n (fun(a,b,c)=>J .ret (tB 2 false .nil) [a.b,b.b,c.b]) (fun(a,b,c,d,e,f,g)=>J (.exit 6) (tO 1 0<|tI 3 a<|tI 4 b<|tO 5 1<|tI 7 c<|tO 8 2<|tI 9 d<|tB 102 false .nil) [e.b,f.b,g.b])
def zW:cQ:=gm 29255684300459 M3 (Qv cc n) (zU cc n)
def MF {cc call}(hc:bF cc call)(n):bv (zW cc n) call n 0 (29255684300459,[1,3,4,5,7,8,9],Mk,true):=cE aL hc aH
abbrev lK:=Int×Int×Int×au×ae
def oT (e:au×ae×aA->R)(l:lK->R)(Y:lK->R):lK->R:=fun(f,g,d,c,b)=>iL (aP d ↑b.Methods.length) (cL (bA b.Methods d) fun s=>bM s fun a=>iL (aP 400 (aq .i64 (f+ ↑a.Nodes.length))) (e (c,b,a)) (iL (aP 20 ↑a.Params.length) (e (c,b,a)) (iL (aP 100 ↑a.Name.length) (e (c,b,a)) (itL (oU cc n (fun(m,o,p)=>e (m,o,p)) (fun(h,i,j,t,q,r,u)=>Y (h,i,aq .i64 (j+1),q,r))) n (aq .i64 (f+ ↑a.Nodes.length),g,d,0,c,b,a))))) (l (f,g,d,c,b))
def M2:Rd dT lK:= .tl<| .o 1 0<| .i 3<| .i 4<| .o 5 1<| .i 7<| .h (.c (.Ob (.cl 3 .n))<| .c (.Ob (.cs<| .cl 7<| .cl 4 .n)) .n)
def Qu (J:JJ):=oT cc n (fun(a,b,c)=>J .ret (tB 2 false .nil) [a.b,b.b,c.b]) (fun(a,b,c,d,e)=>J (.exit 4) (tO 1 0<|tI 3 a<|tI 4 b<|tO 5 1<|tI 7 c<|tB 71 false .nil) [d.b,e.b])
def zV:cQ:=gm 446406315 M2 (Qu cc n) (zW cc n)
def ME {cc call}(hc:bF cc call)(n):bv (zV cc n) call n 0 (446406315,[1,3,4,5,7],zi,true):=cE aL hc (bm (MF hc n) aH)
abbrev lI:=Int×Int×au
def oS (d:au×ae->R)(j:au×ae×aA->R)(l:lI->R)(Y:lI->R):lI->R:=fun(e,c,a)=>iL (aP c ↑a.Types.length) (cL (bA a.Types c) fun v=>bq v fun b=>iL (aP 20 ↑b.Fields.length) (d (a,b)) (iL (aP 20 ↑b.Methods.length) (d (a,b)) (iL (aP 100 ↑b.Name.length) (d (a,b)) (itL (BO cc n (fun(m,o)=>d (m,o)) (fun(f,g,w,p,q)=>itL (oT cc n (fun(r,s,t)=>j (r,s,t)) (fun(h,i,x,u,y)=>Y (h,aq .i64 (i+1),u))) n (f,g,0,p,q))) n (e,c,0,a,b))))) (l (e,c,a))
def M0:Rd dT lI:= .tl<| .o 1 0<| .i 3<| .i 4<| .h (.c (.Ob (.cl 3 .n)) .n)
def Qs (J:JJ):=oS cc n (fun(a,b)=>J .ret (tB 2 false .nil) [a.b,b.b]) (fun(a,b,c)=>J .ret (tB 2 false .nil) [a.b,b.b,c.b]) (fun(a,b,c)=>J (.exit 0) (tO 1 0<|tI 3 a<|tI 4 b<|tB 18 false .nil) [c.b])
def zT:cQ:=gm 6811 M0 (Qs cc n) (zV cc n)
def MC {cc call}(hc:bF cc call)(n):bv (zT cc n) call n 0 (6811,[1,3,4],qO,true):=cE aL hc (bm (EG (EG (MD hc n))) (bm (ME hc n) aH))
def NJ (a:au):R:=iL (aP 20 ↑a.Types.length) rF (itL (oS cc n (fun(d,e)=>rF) (fun(f,g,h)=>rF) (fun(b,c,i)=>rT)) n (0,0,a))
def YY (n:Nat)(a:au):=ij (fun cc=>NJ cc n a) 11 [.p a.e] [] 0 n aL (fun cc=>zT cc n) (fun hc=>bm (MC hc n) aH)
def Mq:=bU (eJ 26).body 1 0
abbrev oQ:=Int×ah
def BP (cc:ab)(n:Nat)(c:ah->R)(d:oQ->R)(Y:oQ->R):oQ->R:=fun(b,a)=>iL (aP b ↑a.L.length) (cL (bA a.L b) fun f=>ja f fun e=>iL (aP 100 ↑e.length) (c a) (Y (aq .i64 (b+1),a))) (d (b,a))
def M8:Rd dT oQ:= .tl<| .o 1 0<| .i 3<| .h (.c (.Ob (.ci<| .ci<| .cs<| .cl 1<| .cl 1 .n)) .n)
def QA (J:JJ):=BP cc n (fun a=>J .ret (tB 2 false .nil) [a.b]) (fun(a,b)=>J (.exit 0) (tO 1 0<|tI 3 a<|tB 8 false .nil) [b.b])
def z7:cQ:=gm 411 M8 (QA cc n) cK
def MK {cc call}(hc:bF cc call)(n):bv (z7 cc n) call n 0 (411,[1,3],Mq,true):=cE ge hc aH
def NX (b:ah):R:=itL (BP cc n (fun d=>rF) (fun(c,a)=>iL (bw (↑a.S.length) 100) (iL (bw (↑a.I.length) 40) (iL (bw (↑a.L.length) 40) rT rF) rF) rF)) n (0,b)
def Zc (n:Nat)(a:ah):=ij (fun cc=>NX cc n a) 26 [.p a.e] [] 0 n ge (fun cc=>z7 cc n) (fun hc=>bm (MK hc n) aH)
def sx:=bU (eJ 12).body 1 0
def Em:=bU sx 411 0
abbrev nO:=LD×Int×Int
def kI (cc:ab)(n:Nat)(e:R)(f:LD×Int×Int×Bool->R)(Y:nO->R):nO->R:=fun(c,b,a)=>cL (bA c b) fun i=>ag i fun d=>iL (aP a ↑d.L.length) (cL (bA c b) fun j=>ag j fun h=>cL (bA h.L a) fun l=>ja l fun g=>iL (aP 100 ↑g.length) (e) (Y (c,b,aq .i64 (a+1)))) (f (c,b,a,aP a ↑d.L.length))
def FA:Rd dT nO:= .tl<| .l 0 5<| .i 3<| .i 4<| .h .n
def Hb (J:JJ):=kI cc n (J .ret (tB 2 false .nil) []) (fun(a,b,c,d)=>J (.exit 2) (tL 0 5 a<|tI 3 b<|tI 4 c<|tB 43 d .nil) [])
def tu:cQ:=gm 1685995 FA (Hb cc n) cK
def EY {cc call}(hc:bF cc call)(n):bv (tu cc n) call n 0 (1685995,[0,3,4],Em,true):=cE rJ hc aH
abbrev nN:=LD×Int
def kH (c:R)(e:LD×Int×Bool->R)(Y:nN->R):nN->R:=fun(b,a)=>iL (aP a ↑b.length) (cL (bA b a) fun j=>ag j fun g=>iL (aP 100 ↑g.S.length) (c) (cL (bA b a) fun l=>ag l fun h=>iL (aP 40 ↑h.I.length) (c) (cL (bA b a) fun m=>ag m fun i=>iL (aP 40 ↑i.L.length) (c) (itL (kI cc n (c) (fun(f,d,p,o)=>Y (f,aq .i64 (d+1)))) n (b,a,0))))) (e (b,a,aP a ↑b.length))
def Fz:Rd dT nN:= .tl<| .l 0 5<| .i 3<| .h .n
def Ha (J:JJ):=kH cc n (J .ret (tB 2 false .nil) []) (fun(a,b,c)=>J (.exit 0) (tL 0 5 a<|tI 3 b<|tB 8 c .nil) [])
def tq:cQ:=gm 411 Fz (Ha cc n) (tu cc n)
def EX {cc call}(hc:bF cc call)(n):bv (tq cc n) call n 0 (411,[0,3],sx,true):=cE rJ hc (bm (EY hc n) aH)
def Bq (b:LD):R:=itL (kH cc n rF (fun(a,d,c)=>some (pB (bw (↑a.length) 20),[]))) n (b,0)
def QQ (n:Nat)(a:LD):=ij (fun cc=>Bq cc n a) 12 [pL 5 a] [] 0 n rJ (fun cc=>tq cc n) (fun hc=>bm (EX hc n) aH)
def El:=bU (eJ 6).body 1 0
abbrev nM:=LD×Int
def kG (n:Nat)(d:R)(i:LD×Int×Bool->R)(Y:nM->R):nM->R:=fun(b,a)=>iL (aP a ↑b.length) (cL (bA b a) fun o=>bQ o fun m=>cc 12 [pL 5 m.Fields] [] fun g j=>dP g fun p=>aB p fun e=>aj j<|iL (!e) (d) (cL (bA b a) fun q=>bQ q fun c=>cc 12 [pL 5 [Da.agg [Da.int .i64 c.Reply_Kind,Da.int .i64 c.Reply_N,Da.str c.Reply_S,Da.slice 1 c.Reply_I,Da.slice 1 c.Reply_L]]] [] fun h l=>dP h fun r=>aB r fun f=>aj l<|iL (!f) (d) (Y (b,aq .i64 (a+1))))) (i (b,a,aP a ↑b.length))
def Fy:Rd dT nM:= .tl<| .l 2 6<| .i 9<| .h .n
def G9 (J:JJ):=kG cc n (J .ret (tB 8 false .nil) []) (fun(a,b,c)=>J (.exit 0) (tL 2 6 a<|tI 9 b<|tB 30 c .nil) [])
def to:cQ:=gm 1691 Fy (G9 cc n) cK
def EW {cc call}(hc:bF cc call)(n):bv (to cc n) call n 0 (1691,[2,9],El,true):=cE bh hc aH
def Bp (h:au)(i:LD)(a:LD)(j:Int):R:=cc 11 [.p h.e] [] fun d f=>dP d fun l=>aB l fun b=>aj f<|iL (!b) rF (cc 12 [pL 5 i] [] fun e g=>dP e fun m=>aB m fun c=>aj g<|iL (!c) rF (iL (aP 12 ↑a.length) rF (iL (aP 300 j) rF (itL (kG cc n rF (fun(q,p,o)=>rT)) n (a,0)))))
def QP (n:Nat)(a:au)(b:LD)(c:LD)(d:Int):=ij (fun cc=>Bp cc n a b c d) 6 [.p a.e,pL 5 b,pL 6 c,pI d] [] 0 n bh (fun cc=>to cc n) (fun hc=>bm (EW hc n) aH)
def acr (n:Nat)(g:au)(h:LN)(i:LN)(j:LN)(l:LD)(a:LD)(m:Int)(d:Int):R:=cc 5 [] [] fun r B=>dP r fun P=>aB P fun p=>aj B<|iL (!p) rF (cc 6 [.p g.e,pL 5 l,pL 6 a,pI m] [] fun y E=>dP y fun T=>aB T fun q=>aj E<|iL (!q) rT (iL (az (↑a.length) 0) rT (iL (aP 100 ↑h.length) rT (iL (aP 100 ↑i.length) rT (iL (aP 100 ↑j.length) rT (iL (az (↑a.length) 0) (none) (cc 7 [.p g.e,pS h,pS i,pS j,pL 5 l,pL 6 a,pI m] [] fun z A=>ba z fun F=>aJ F fun s G=>dP s fun L=>DE 18 L fun e=>aJ G fun t H=>dP t fun M=>bg .i64 M fun b=>aj H<|aj A<|iL (bw 0 (aq .i64 (1+Int.tmod (aq .i64 d) ↑a.length))) (iL (bw (aq .i64 (1+Int.tmod (aq .i64 d) ↑a.length)) ↑a.length) (cc 7 [.p g.e,pS h,pS i,pS j,pL 5 l,pL 6 (List.take (Int.toNat (aq .i64 (1+Int.tmod (aq .i64 d) ↑a.length)) - 0) (List.drop 0 a)),pI m] [] fun u C=>ba u fun I=>aJ I fun v J=>dP v fun N=>DE 18 N fun f=>aJ J fun w K=>dP w fun O=>bg .i64 O fun c=>aj K<|aj C<|iL (!az b 0) (iL (az b c) rT (iL (az c 0) (some (pB (az b 1),[])) rF)) (iL (!az c 0) (iL (az b c) rT (iL (az c 0) (some (pB (az b 1),[])) rF)) (iL (az (↑f.length) (bif aP (aq .i64 (1+Int.tmod (aq .i64 d) ↑a.length)) ↑e.length then aq .i64 (1+Int.tmod (aq .i64 d) ↑a.length)else ↑e.length)) (iL (bw ↑f.length ↑e.length) (cc 8 [pL 18 (List.take (Int.toNat ↑f.length - 0) (List.drop 0 e)),pL 18 f] [] fun x D=>dP x fun S=>aB S fun o=>aj D<|some (pB o,[])) (none)) rF))) (none)) (none))))))))
def acH (n:Nat)(a:au)(b:LN)(c:LN)(d:LN)(e:LD)(f:LD)(g:Int)(h:Int):=dG (fun cc=>acr cc n a b c d e f g h) 3 [.p a.e,pS b,pS c,pS d,pL 5 e,pL 6 f,pI g,.p (.int .u8 h)] [] 0 n bh
end
end Go.Ab
