import Derived.Test.YtgcndlhopflceaaGreatDoorDcA
import Derived.Test.YtgcndlhopflceaaGreatDoorAwZ
import Derived.KernelRfl
set_option linter.all false
namespace Go.Ab
open Go
set_option maxRecDepth 100000
noncomputable section
variable (cc:ab)(n:Nat)
def NO (n:Nat)(c:eM)(i:Int)(b:Bool):R:=iL b (some (.tup [],c.hp)) (cc 150 [.box 0 0,pI i,pI 15] c.hp fun a d=>ba a fun e=>aj e<|aK d fun f=>some (.tup [],f.hp))
def Y3 (n:Nat)(c:eM)(i:Int)(b:Bool):=dG (fun cc=>NO cc n c i b) 107 [.box 0 0,pI i,pB b] c.hp 6 n aL
def NL (cc:ab)(n:Nat)(c:eM)(i:Int)(e:Int):R:=iL (az c.er 0) (some (.tup [],({c with nd:=i,er:=e}:eM).hp)) (some (.tup [],c.hp))
def Y0 (n:Nat)(c:eM)(i:Int)(e:Int):=dG (fun cc=>NL cc n c i e) 150 [.box 0 0,pI i,pI e] c.hp 6 n aL
def NM (cc:ab)(n:Nat)(c:eM)(s:LN):R:=cL (bN TypeDesc.string (Da.str s) c.fk 0) fun h=>fC h (cL (bN TypeDesc.string (Da.str s) c.sk 0) fun i=>fC i (some (.tup [.p (.agg [.int .i64 0,.int .i64 0,.bool false]),pB false],c.hp)) fun a=>cL c.sv[a]? fun f=>aV f fun d=>some (.tup [.p d.e,pB true],c.hp)) fun b=>cL c.fv[b]? fun g=>aV g fun e=>some (.tup [.p e.e,pB true],c.hp)
def Y1 (n:Nat)(c:eM)(s:LN):=dG (fun cc=>NM cc n c s) 186 [.box 0 0,pS s] c.hp 6 n aL
def T6 (n:Nat)(c:eM)(i:Int)(s:LN):R:=cc 186 [.box 0 0,pS s] c.hp fun d l=>ba d fun o=>aJ o fun f p=>dP f fun u=>aV u fun a=>aJ p fun g q=>dP g fun t=>aB t fun b=>aj q<|aW c.hp l<|iL b (cL (bN (TypeDesc.int .i64) (Da.int .i64 i) c.vk 0) fun v=>fC v (some (.p a.e,({c with vk:=(c.vk++[Da.int .i64 i]),vv:=(c.vv++[Da.agg [Da.int .i64 a.kind,Da.int .i64 a.slot,Da.bool a.field]])}:eM).hp)) fun h=>some (.p a.e,({c with vv:=(List.set c.vv h (Da.agg [Da.int .i64 a.kind,Da.int .i64 a.slot,Da.bool a.field]))}:eM).hp)) (cc 150 [.box 0 0,pI i,pI 14] c.hp fun e j=>ba e fun m=>aj m<|aK j fun r=>some (.p (.agg [.int .i64 0,.int .i64 0,.bool false]),r.hp))
def ş (n:Nat)(c:eM)(i:Int)(s:LN):=dG (fun cc=>T6 cc n c i s) 153 [.box 0 0,pI i,pS s] c.hp 6 n aL
def xN (cc:ab)(n:Nat)(c:eM)(s:LN)(k:Int):R:=cL (bN TypeDesc.string (Da.str s) c.sk 0) fun e=>fC e (cL (bN TypeDesc.string (Da.str s) c.lk 0) fun f=>fC f (iL (Nat.beq c.ln (List.length c.lo)) (iL (ce (List.length c.lo+List.length [Da.agg [Da.str s,Da.int .i64 k]]) 24) (some (.tup [],({c with ln:=(List.length (c.lo++[Da.agg [Da.str s,Da.int .i64 k]])),sk:=(c.sk++[Da.str s]),sv:=(c.sv++[Da.agg [Da.int .i64 k,Da.int .i64 ↑c.ln,Da.bool false]]),lk:=(c.lk++[Da.str s]),lv:=(c.lv++[Da.bool true]),lo:=(c.lo++[Da.agg [Da.str s,Da.int .i64 k]])}:eM).hp)) (none)) (none)) fun b=>iL (Nat.beq c.ln (List.length c.lo)) (iL (ce (List.length c.lo+List.length [Da.agg [Da.str s,Da.int .i64 k]]) 24) (some (.tup [],({c with ln:=(List.length (c.lo++[Da.agg [Da.str s,Da.int .i64 k]])),sk:=(c.sk++[Da.str s]),sv:=(c.sv++[Da.agg [Da.int .i64 k,Da.int .i64 ↑c.ln,Da.bool false]]),lv:=(List.set c.lv b (Da.bool true)),lo:=(c.lo++[Da.agg [Da.str s,Da.int .i64 k]])}:eM).hp)) (none)) (none)) fun a=>cL (bN TypeDesc.string (Da.str s) c.lk 0) fun g=>fC g (iL (Nat.beq c.ln (List.length c.lo)) (iL (ce (List.length c.lo+List.length [Da.agg [Da.str s,Da.int .i64 k]]) 24) (some (.tup [],({c with ln:=(List.length (c.lo++[Da.agg [Da.str s,Da.int .i64 k]])),sv:=(List.set c.sv a (Da.agg [Da.int .i64 k,Da.int .i64 ↑c.ln,Da.bool false])),lk:=(c.lk++[Da.str s]),lv:=(c.lv++[Da.bool true]),lo:=(c.lo++[Da.agg [Da.str s,Da.int .i64 k]])}:eM).hp)) (none)) (none)) fun d=>iL (Nat.beq c.ln (List.length c.lo)) (iL (ce (List.length c.lo+List.length [Da.agg [Da.str s,Da.int .i64 k]]) 24) (some (.tup [],({c with ln:=(List.length (c.lo++[Da.agg [Da.str s,Da.int .i64 k]])),sv:=(List.set c.sv a (Da.agg [Da.int .i64 k,Da.int .i64 ↑c.ln,Da.bool false])),lv:=(List.set c.lv d (Da.bool true)),lo:=(c.lo++[Da.agg [Da.str s,Da.int .i64 k]])}:eM).hp)) (none)) (none)
def Lh (n:Nat)(c:eM)(s:LN)(k:Int):=dG (fun cc=>xN cc n c s k) 71 [.box 0 0,pS s,pI k] c.hp 1 n aL
def T5 (n:Nat)(c:eM)(i:Int)(x:af)(k:Int):R:=cL (bN TypeDesc.string (Da.str x.Name) c.fk 0) fun y1=>fC y1 (cL (bN TypeDesc.string (Da.str x.Name) c.lk 0) fun y2=>fC y2 (iL (az (↑c.ln) 8) (cc 150 [.box 0 0,pI i,pI 5] c.hp fun h K=>ba h fun r5=>aj r5<|aK K fun u6=>cc 107 [.box 0 0,pI i,pB (az k x.Value_Kind)] u6.hp fun t X=>ba t fun r9=>aj r9<|aK X fun b9=>cc 71 [.box 0 0,pS x.Name,pI x.Value_Kind] b9.hp fun b E=>ba b fun a3=>aj a3<|aK E fun c1=>cc 153 [.box 0 0,pI i,pS x.Name] c1.hp fun d F=>dP d fun e4=>aV e4 fun f4=>aK F fun c2=>some (.tup [],c2.hp)) (cc 107 [.box 0 0,pI i,pB (az k x.Value_Kind)] c.hp fun e G=>ba e fun a4=>aj a4<|aK G fun c3=>cc 71 [.box 0 0,pS x.Name,pI x.Value_Kind] c3.hp fun f H=>ba f fun a5=>aj a5<|aK H fun c4=>cc 153 [.box 0 0,pI i,pS x.Name] c4.hp fun g I=>dP g fun e5=>aV e5 fun f5=>aK I fun c5=>some (.tup [],c5.hp))) fun C=>cL c.lv[C]? fun e6=>aB e6 fun a=>iL a (cc 150 [.box 0 0,pI i,pI 7] c.hp fun j J=>ba j fun a6=>aj a6<|aK J fun c6=>cc 107 [.box 0 0,pI i,pB (az k x.Value_Kind)] c6.hp fun l L=>ba l fun a7=>aj a7<|aK L fun c7=>cc 71 [.box 0 0,pS x.Name,pI x.Value_Kind] c7.hp fun m M=>ba m fun a8=>aj a8<|aK M fun c8=>cc 153 [.box 0 0,pI i,pS x.Name] c8.hp fun o N=>dP o fun e7=>aV e7 fun f6=>aK N fun c9=>some (.tup [],c9.hp)) (iL (az (↑c.ln) 8) (cc 150 [.box 0 0,pI i,pI 5] c.hp fun p O=>ba p fun b0=>aj b0<|aK O fun d0=>cc 107 [.box 0 0,pI i,pB (az k x.Value_Kind)] d0.hp fun q P=>ba q fun b1=>aj b1<|aK P fun d2=>cc 71 [.box 0 0,pS x.Name,pI x.Value_Kind] d2.hp fun r S=>ba r fun b2=>aj b2<|aK S fun d4=>cc 153 [.box 0 0,pI i,pS x.Name] d4.hp fun s T=>dP s fun e8=>aV e8 fun f7=>aK T fun d5=>some (.tup [],d5.hp)) (cc 107 [.box 0 0,pI i,pB (az k x.Value_Kind)] c.hp fun u U=>ba u fun b3=>aj b3<|aK U fun d6=>cc 71 [.box 0 0,pS x.Name,pI x.Value_Kind] d6.hp fun v V=>ba v fun b4=>aj b4<|aK V fun d8=>cc 153 [.box 0 0,pI i,pS x.Name] d8.hp fun w W=>dP w fun e9=>aV e9 fun f8=>aK W fun d9=>some (.tup [],d9.hp)))) fun D=>cL c.fv[D]? fun f0=>aV f0 fun f9=>cc 150 [.box 0 0,pI i,pI 7] c.hp fun y Z=>ba y fun b5=>aj b5<|aK Z fun e0=>cc 107 [.box 0 0,pI i,pB (az k x.Value_Kind)] e0.hp fun z a0=>ba z fun b7=>aj b7<|aK a0 fun e1=>cc 71 [.box 0 0,pS x.Name,pI x.Value_Kind] e1.hp fun A a1=>ba A fun b8=>aj b8<|aK a1 fun e2=>cc 153 [.box 0 0,pI i,pS x.Name] e2.hp fun B a2=>dP B fun e3=>aV e3 fun f3=>aK a2 fun c0=>some (.tup [],c0.hp)
def Ş (n:Nat)(c:eM)(i:Int)(x:af)(k:Int):=dG (fun cc=>T5 cc n c i x k) 156 [.box 0 0,pI i,.p x.e,pI k] c.hp 1 n bh
def BH (n:Nat)(b:au)(d:LN)(e:LN):R:=cc 33 [pL 3 b.Types,.fn 184 [.box 0 0]] [.box [pS d]] fun f h=>dP f fun q=>bg .i64 q fun a=>aW [.box [pS d]] h<|iL (aP a 0) (some (.tup [.p (.agg [.str [],.slice 2 [],.int .i64 0,.slice 8 []]),pB false],[])) (cL (bA b.Types a) fun r=>bq r fun m=>cc 35 [pL 4 m.Methods,.fn 185 [.box 0 0]] [.box [pS e]] fun g i=>dP g fun s=>bg .i64 s fun c=>aW [.box [pS e]] i<|iL (aP c 0) (some (.tup [.p (.agg [.str [],.slice 2 [],.int .i64 0,.slice 8 []]),pB false],[])) (cL (bA b.Types a) fun o=>bq o fun j=>cL (bA j.Methods c) fun p=>bM p fun l=>some (.tup [.p l.e,pB true],[])))
def Q6 (n:Nat)(a:au)(b:LN)(c:LN):=dG (fun cc=>BH cc n a b c) 149 [.p a.e,pS b,pS c] [] 0 n aL
def xT (cc:ab)(n:Nat)(x:ae)(s:LN):R:=iL (be x.Name s) (some (pB true,[.box [pS s]])) (some (pB false,[.box [pS s]]))
def Lq (n:Nat)(x:ae)(s:LN):=dG (fun cc=>xT cc n x s) 184 [.p x.e,.box 0 0] [.box [pS s]] 1 n aL
def xU (cc:ab)(n:Nat)(x:aA)(s:LN):R:=iL (be x.Name s) (some (pB true,[.box [pS s]])) (some (pB false,[.box [pS s]]))
def Lr (n:Nat)(x:aA)(s:LN):=dG (fun cc=>xU cc n x s) 185 [.p x.e,.box 0 0] [.box [pS s]] 1 n aL
def Er:=bU (eJ 33).body 1 0
abbrev nR:=LD×Int×Int×LN
def kM (n:Nat)(g:Int×(LN)->R)(h:LD×Int×Int×(LN)->R)(Y:nR->R):nR->R:=fun(d,c,a,b)=>iL (aP a c) (cL (bA d a) fun l=>bq l fun j=>cc 184 [.p j.e,.box 0 0] [.box [pS b]] fun f i=>dP f fun m=>aB m fun e=>aW [.box [pS b]] i<|iL e (g (a,b)) (Y (d,c,aq .i64 (a+1),b))) (h (d,c,a,b))
def FE:Rd dT nR:= .tl<| .l 0 3<| .v 1 (.F 184 (.co 0 .n))<| .i 7<| .i 8<| .h (.c (.Ob (.cs .n)) .n)
def Hf (J:JJ):=kM cc n (fun(a,b)=>J .ret (tI 4 a .nil) [.box [pS b]]) (fun(a,b,c,d)=>J (.exit 0) (tL 0 3 a<| .cons 1 (.fn 184 [(.box 0 0)])<|tI 7 b<|tI 8 c<|tB 9 false .nil) [.box [pS d]])
def tA:cQ:=gm 411 FE (Hf cc n) cK
def E2 {cc call}(hc:bF cc call)(n):bv (tA cc n) call n 1 (411,[0,1,7,8],Er,true):=cE aL hc aH
def Bu (l:LD)(s:LN):R:=itL (kM cc n (fun(a,b)=>some (pI a,[.box [pS b]])) (fun(f,d,e,c)=>some (pI (-1),[.box [pS c]]))) n (l,↑l.length,0,s)
def QU (n:Nat)(l:LD)(s:LN):=ij (fun cc=>Bu cc n l s) 33 [pL 3 l,.fn 184 [.box 0 0]] [.box [pS s]] 1 n aL (fun cc=>tA cc n) (fun hc=>bm (E2 hc n) aH)
def Ep:=bU (eJ 35).body 1 0
abbrev nQ:=LD×Int×Int×LN
def kL (n:Nat)(g:Int×(LN)->R)(h:LD×Int×Int×(LN)->R)(Y:nQ->R):nQ->R:=fun(d,c,a,b)=>iL (aP a c) (cL (bA d a) fun l=>bM l fun j=>cc 185 [.p j.e,.box 0 0] [.box [pS b]] fun f i=>dP f fun m=>aB m fun e=>aW [.box [pS b]] i<|iL e (g (a,b)) (Y (d,c,aq .i64 (a+1),b))) (h (d,c,a,b))
def FD:Rd dT nQ:= .tl<| .l 0 4<| .v 1 (.F 185 (.co 0 .n))<| .i 7<| .i 8<| .h (.c (.Ob (.cs .n)) .n)
def He (J:JJ):=kL cc n (fun(a,b)=>J .ret (tI 4 a .nil) [.box [pS b]]) (fun(a,b,c,d)=>J (.exit 0) (tL 0 4 a<| .cons 1 (.fn 185 [(.box 0 0)])<|tI 7 b<|tI 8 c<|tB 9 false .nil) [.box [pS d]])
def tz:cQ:=gm 411 FD (He cc n) cK
def E1 {cc call}(hc:bF cc call)(n):bv (tz cc n) call n 1 (411,[0,1,7,8],Ep,true):=cE aL hc aH
def Bt (l:LD)(s:LN):R:=itL (kL cc n (fun(a,b)=>some (pI a,[.box [pS b]])) (fun(f,d,e,c)=>some (pI (-1),[.box [pS c]]))) n (l,↑l.length,0,s)
def QT (n:Nat)(l:LD)(s:LN):=ij (fun cc=>Bt cc n l s) 35 [pL 4 l,.fn 185 [.box 0 0]] [.box [pS s]] 1 n aL (fun cc=>tz cc n) (fun hc=>bm (E1 hc n) aH)
def IG:=bU (eJ 137).body 1 0
abbrev mA:=LD×LD×Int×Int
def mK (cc:ab)(n:Nat)(g:R)(h:mA->R)(Y:mA->R):mA->R:=fun(c,d,b,a)=>iL (aP a b) (cL (bA c a) fun i=>bg .i64 i fun e=>cL (bA d a) fun j=>bg .i64 j fun f=>iL (!az e f) (g) (Y (c,d,b,aq .i64 (a+1)))) (h (c,d,b,a))
def JR:Rd dT mA:= .tl<| .l 0 1<| .l 1 1<| .i 12<| .i 13<| .h .n
def KW (J:JJ):=mK cc n (J .ret (tB 4 false .nil) []) (fun(a,b,c,d)=>J (.exit 0) (tL 0 1 a<|tL 1 1 b<|tI 12 c<|tI 13 d<|tB 14 false .nil) [])
def vR:cQ:=gm 1691 JR (KW cc n) cK
def Jm {cc call}(hc:bF cc call)(n):bv (vR cc n) call n 0 (1691,[0,1,12,13],IG,true):=cE aL hc aH
def Gz (a:LD)(b:LD):R:=iL (!az ↑a.length ↑b.length) rF (itL (mK cc n rF (fun(f,e,c,d)=>rT)) n (a,b,↑a.length,0))
def UD (n:Nat)(a:LD)(b:LD):=ij (fun cc=>Gz cc n a b) 137 [pL 1 a,pL 1 b] [] 0 n aL (fun cc=>vR cc n) (fun hc=>bm (Jm hc n) aH)
def wD:=bU (eJ 151).body 1 0
abbrev gz:=LD×LD×Int×Int
def gB (n:Nat)(i:cG->R)(j:gz->R)(Y:gz->R):gz->R:=fun(c,d,b,a)=>iL (aP a b) (cL (bA d a) fun o=>bg .i64 o fun h=>cL (bA c a) fun p=>cR p fun e=>cc 152 [pI h,.p e.e] [] fun g l=>dP g fun m=>aB m fun f=>aW [] l<|iL f (Y (c,d,b,aq .i64 (a+1))) (i e)) (j (c,d,b,a))
def wQ:Rd dT gz:= .tl<| .l 1 2<| .v 2 (.P (.FP 152 .n))<| .l 15 1<| .i 16<| .i 17<| .h .n
def yk (J:JJ):=gB cc n (fun a=>J .ret (tB 6 false .nil) [a.b]) (fun(a,b,c,d)=>J (.exit 0) (tL 1 2 a<| .cons 2 (.p (.fn 152 []))<|tL 15 1 b<|tI 16 c<|tI 17 d<|tB 18 false .nil) [])
def nw:cQ:=gm 1691 wQ (yk cc n) cK
def wL {cc call}(hc:bF cc call)(n):bv (nw cc n) call n 0 (1691,[1,2,15,16,17],wD,true):=cE aL hc aH
def rb (x:LD)(y:LD):R:=iL (!az ↑x.length ↑y.length) rF (itL (gB cc n (fun e=>rF) (fun(c,d,a,b)=>rT)) n (y,x,↑x.length,0))
def Dh (n:Nat)(x:LD)(y:LD):=ij (fun cc=>rb cc n x y) 151 [pL 1 x,pL 2 y,.p (.fn 152 [])] [] 0 n aL (fun cc=>nw cc n) (fun hc=>bm (wL hc n) aH)
def Gk (cc:ab)(n:Nat)(a:Int)(b:cG):R:=iL (az a b.Kind) rT rF
def Uo (n:Nat)(a:Int)(b:cG):=dG (fun cc=>Gk cc n a b) 152 [pI a,.p b.e] [] 0 n aL
def NK (n:Nat)(c:eM)(i:Int)(x:af)(l:LD):R:=cc 149 [.p (.agg [.slice 3 c.pr]),pS x.Name,pS x.Value_S] [] fun e t=>ba e fun B=>aJ B fun o D=>dP o fun M=>bM M fun a=>aJ D fun p E=>dP p fun J=>aB J fun b=>aj E<|aj t<|iL b (cL (bA l 0) fun K=>bg .i64 K fun q=>iL (az q 3) (iL (bw 1 ↑l.length) (cc 151 [pL 1 (List.take (List.length l - Int.toNat 1) (List.drop (Int.toNat 1) l)),pL 2 a.Params,.p (.fn 152 [])] [] fun f r=>dP f fun L=>aB L fun d=>aW [] r<|iL d (cc 107 [.box 0 0,pI i,pB true] c.hp fun g s=>ba g fun y=>aj y<|aK s fun F=>some (pI a.Result,F.hp)) (cc 107 [.box 0 0,pI i,pB false] c.hp fun h u=>ba h fun z=>aj z<|aK u fun G=>some (pI a.Result,G.hp))) (none)) (cc 107 [.box 0 0,pI i,pB false] c.hp fun j v=>ba j fun A=>aj A<|aK v fun H=>some (pI a.Result,H.hp))) (cc 150 [.box 0 0,pI i,pI 14] c.hp fun m w=>ba m fun C=>aj C<|aK w fun I=>some (pI 0,I.hp))
def YZ (n:Nat)(c:eM)(i:Int)(x:af)(l:LD):=dG (fun cc=>NK cc n c i x l) 104 [.box 0 0,pI i,.p x.e,pL 1 l] c.hp 6 n aL
def Ed:=bU (eJ 154).body 1 0
def Ee:=bU (eJ 154).body 1 1
def Eg:=bU (eJ 154).body 1 2
def Eh:=bU (eJ 154).body 1 3
abbrev ve:=Int×Int×Bool×eM
def gn (cc:ab)(n:Nat)(b:Int×Bool×eM->R):ve->R:=fun(a,e,d,c)=>iL d (iL (az e 2) (b (a,true,c)) (b (a,false,c))) (b (a,false,c))
def Fp:Rd dT ve:= .o 0 0<| .i 1<| .i 3<| .v 11 (.P (.K .i64 2))<| .b 12<| .h r_Ckr
def G2 (J:JJ):=gn cc n (fun(a,b,c)=>J .norm (tO 0 0<|tI 1 a<|tI 11 2<|tB 12 b .nil) c.hp)
def sY:cQ:=xn 27065 Fp (G2 cc n) cK
def EP {cc call}(hc:bF cc call)(n):bv (sY cc n) call n 6 (27065,[0,1,3,11,12],Ed,false):=lX aL hc aH
abbrev vf:=Int×Int×Bool×eM
def c6 (cc:ab)(n:Nat)(b:Int×Bool×eM->R):vf->R:=fun(a,d,e,c)=>iL e (iL (az d 1) (b (a,true,c)) (iL (az d 3) (b (a,true,c)) (b (a,false,c)))) (b (a,false,c))
def Fq:Rd dT vf:= .o 0 0<| .i 1<| .i 3<| .v 11 (.P (.K .i64 2))<| .b 12<| .h r_Ckr
def G3 (J:JJ):=c6 cc n (fun(a,b,c)=>J .norm (tO 0 0<|tI 1 a<|tI 11 2<|tB 12 b .nil) c.hp)
def sZ:cQ:=xn 433065 Fq (G3 cc n) (sY cc n)
def EQ {cc call}(hc:bF cc call)(n):bv (sZ cc n) call n 6 (433065,[0,1,3,11,12],Ee,false):=lX aL hc aH
abbrev nI:=Int×Int×Bool×eM
def kE (cc:ab)(n:Nat)(c:nI->R):nI->R:=fun(b,a,e,d)=>iL e (iL (az a 1) (c (b,a,true,d)) (iL (az a 3) (c (b,a,true,d)) (c (b,a,false,d)))) (c (b,a,false,d))
def Fs:Rd dT nI:= .o 0 0<| .i 1<| .i 3<| .b 12<| .h r_Ckr
def G4 (J:JJ):=kE cc n (fun(a,b,c,d)=>J .norm (tO 0 0<|tI 1 a<|tI 11 b<|tB 12 c .nil) d.hp)
def ta:cQ:=xn 6929065 Fs (G4 cc n) (sZ cc n)
def ER {cc call}(hc:bF cc call)(n):bv (ta cc n) call n 6 (6929065,[0,1,3,12],Eg,false):=lX aL hc aH
abbrev vg:=Int×Int×Bool×eM
def c7 (cc:ab)(n:Nat)(b:Int×Bool×eM->R):vg->R:=fun(a,e,d,c)=>iL d (iL (az e 1) (b (a,true,c)) (b (a,false,c))) (b (a,false,c))
def Ft:Rd dT vg:= .o 0 0<| .i 1<| .i 3<| .b 12<| .h r_Ckr
def G5 (J:JJ):=c7 cc n (fun(a,b,c)=>J .norm (tO 0 0<|tI 1 a<|tI 11 1<|tB 12 b .nil) c.hp)
def td:cQ:=xn 110865065 Ft (G5 cc n) (ta cc n)
def ES {cc call}(hc:bF cc call)(n):bv (td cc n) call n 6 (110865065,[0,1,3,12],Eh,false):=lX aL hc aH
def Bg (c:eM)(i:Int)(s:LN)(x:Int)(y:Int):R:=iL (az x y) (iL (be s [38,38]) (gn cc n (fun(z,b6,u7)=>iL b6 (cc 107 [.box 0 0,pI z,pB true] u7.hp fun d8 o9=>ba d8 fun n3=>aj n3<|aK o9 fun s2=>some (pI 2,s2.hp)) (cc 107 [.box 0 0,pI z,pB false] u7.hp fun d2 i1=>ba d2 fun o2=>aj o2<|aK i1 fun t1=>some (pI 2,t1.hp))) (i,x,true,c)) (iL (be s [124,124]) (gn cc n (fun(g,b0,M)=>iL b0 (cc 107 [.box 0 0,pI g,pB true] M.hp fun e7 j6=>ba e7 fun p7=>aj p7<|aK j6 fun u4=>some (pI 2,u4.hp)) (cc 107 [.box 0 0,pI g,pB false] M.hp fun f6 l4=>ba f6 fun q5=>aj q5<|aK l4 fun v3=>some (pI 2,v3.hp))) (i,x,true,c)) (iL (be s [60]) (c6 cc n (fun(v,c0,W)=>iL c0 (cc 107 [.box 0 0,pI v,pB true] W.hp fun g4 m1=>ba g4 fun r0=>aj r0<|aK m1 fun v7=>some (pI 2,v7.hp)) (cc 107 [.box 0 0,pI v,pB false] W.hp fun g5 m2=>ba g5 fun r1=>aj r1<|aK m2 fun v8=>some (pI 2,v8.hp))) (i,x,true,c)) (iL (be s [60,61]) (c6 cc n (fun(w,c1,X)=>iL c1 (cc 107 [.box 0 0,pI w,pB true] X.hp fun g6 m3=>ba g6 fun r2=>aj r2<|aK m3 fun v9=>some (pI 2,v9.hp)) (cc 107 [.box 0 0,pI w,pB false] X.hp fun g7 m4=>ba g7 fun r3=>aj r3<|aK m4 fun w0=>some (pI 2,w0.hp))) (i,x,true,c)) (iL (be s [62]) (c6 cc n (fun(A,c2,Z)=>iL c2 (cc 107 [.box 0 0,pI A,pB true] Z.hp fun g8 m5=>ba g8 fun r4=>aj r4<|aK m5 fun w1=>some (pI 2,w1.hp)) (cc 107 [.box 0 0,pI A,pB false] Z.hp fun g9 m6=>ba g9 fun r5=>aj r5<|aK m6 fun w2=>some (pI 2,w2.hp))) (i,x,true,c)) (iL (be s [62,61]) (c6 cc n (fun(B,c4,a0)=>iL c4 (cc 107 [.box 0 0,pI B,pB true] a0.hp fun h0 m7=>ba h0 fun r6=>aj r6<|aK m7 fun w3=>some (pI 2,w3.hp)) (cc 107 [.box 0 0,pI B,pB false] a0.hp fun h1 m8=>ba h1 fun r7=>aj r7<|aK m8 fun w4=>some (pI 2,w4.hp))) (i,x,true,c)) (iL (be s [43]) (kE cc n (fun(C,D,c5,a2)=>iL c5 (cc 107 [.box 0 0,pI C,pB true] a2.hp fun h3 m9=>ba h3 fun r8=>aj r8<|aK m9 fun w5=>some (pI D,w5.hp)) (cc 107 [.box 0 0,pI C,pB false] a2.hp fun h4 n0=>ba h4 fun r9=>aj r9<|aK n0 fun w6=>some (pI D,w6.hp))) (i,x,true,c)) (iL (be s [45]) (c7 cc n (fun(E,c8,a3)=>iL c8 (cc 107 [.box 0 0,pI E,pB true] a3.hp fun h5 n2=>ba h5 fun n4=>aj n4<|aK n2 fun s0=>some (pI 1,s0.hp)) (cc 107 [.box 0 0,pI E,pB false] a3.hp fun c9 h6=>ba c9 fun n5=>aj n5<|aK h6 fun s1=>some (pI 1,s1.hp))) (i,x,true,c)) (iL (be s [42]) (c7 cc n (fun(a,a4,F)=>iL a4 (cc 107 [.box 0 0,pI a,pB true] F.hp fun d0 h7=>ba d0 fun n6=>aj n6<|aK h7 fun s3=>some (pI 1,s3.hp)) (cc 107 [.box 0 0,pI a,pB false] F.hp fun d1 h8=>ba d1 fun n7=>aj n7<|aK h8 fun s4=>some (pI 1,s4.hp))) (i,x,true,c)) (iL (be s [47]) (c7 cc n (fun(b,a5,G)=>iL a5 (cc 107 [.box 0 0,pI b,pB true] G.hp fun d3 h9=>ba d3 fun n8=>aj n8<|aK h9 fun s5=>some (pI 1,s5.hp)) (cc 107 [.box 0 0,pI b,pB false] G.hp fun d4 i0=>ba d4 fun n9=>aj n9<|aK i0 fun s6=>some (pI 1,s6.hp))) (i,x,true,c)) (iL (be s [37]) (c7 cc n (fun(d,a6,H)=>iL a6 (cc 107 [.box 0 0,pI d,pB true] H.hp fun d5 i2=>ba d5 fun o0=>aj o0<|aK i2 fun s7=>some (pI 1,s7.hp)) (cc 107 [.box 0 0,pI d,pB false] H.hp fun d6 i3=>ba d6 fun o1=>aj o1<|aK i3 fun s8=>some (pI 1,s8.hp))) (i,x,true,c)) (cc 107 [.box 0 0,pI i,pB true] c.hp fun d7 i4=>ba d7 fun o3=>aj o3<|aK i4 fun s9=>some (pI 2,s9.hp))))))))))))) (iL (be s [38,38]) (gn cc n (fun(e,a7,I)=>iL a7 (cc 107 [.box 0 0,pI e,pB true] I.hp fun d9 i6=>ba d9 fun o4=>aj o4<|aK i6 fun t0=>some (pI 2,t0.hp)) (cc 107 [.box 0 0,pI e,pB false] I.hp fun e0 i7=>ba e0 fun o5=>aj o5<|aK i7 fun t2=>some (pI 2,t2.hp))) (i,x,false,c)) (iL (be s [124,124]) (gn cc n (fun(f,a8,J)=>iL a8 (cc 107 [.box 0 0,pI f,pB true] J.hp fun e1 i8=>ba e1 fun o6=>aj o6<|aK i8 fun t3=>some (pI 2,t3.hp)) (cc 107 [.box 0 0,pI f,pB false] J.hp fun e2 i9=>ba e2 fun o7=>aj o7<|aK i9 fun t4=>some (pI 2,t4.hp))) (i,x,false,c)) (iL (be s [60]) (c6 cc n (fun(h,a9,K)=>iL a9 (cc 107 [.box 0 0,pI h,pB true] K.hp fun e3 j0=>ba e3 fun o8=>aj o8<|aK j0 fun t5=>some (pI 2,t5.hp)) (cc 107 [.box 0 0,pI h,pB false] K.hp fun e4 j1=>ba e4 fun p0=>aj p0<|aK j1 fun t6=>some (pI 2,t6.hp))) (i,x,false,c)) (iL (be s [60,61]) (c6 cc n (fun(j,b1,L)=>iL b1 (cc 107 [.box 0 0,pI j,pB true] L.hp fun e5 j2=>ba e5 fun p1=>aj p1<|aK j2 fun t7=>some (pI 2,t7.hp)) (cc 107 [.box 0 0,pI j,pB false] L.hp fun e6 j3=>ba e6 fun p2=>aj p2<|aK j3 fun t8=>some (pI 2,t8.hp))) (i,x,false,c)) (iL (be s [62]) (c6 cc n (fun(l,b2,N)=>iL b2 (cc 107 [.box 0 0,pI l,pB true] N.hp fun e8 j4=>ba e8 fun p3=>aj p3<|aK j4 fun t9=>some (pI 2,t9.hp)) (cc 107 [.box 0 0,pI l,pB false] N.hp fun e9 j5=>ba e9 fun p4=>aj p4<|aK j5 fun u0=>some (pI 2,u0.hp))) (i,x,false,c)) (iL (be s [62,61]) (c6 cc n (fun(m,b3,O)=>iL b3 (cc 107 [.box 0 0,pI m,pB true] O.hp fun f0 j7=>ba f0 fun p5=>aj p5<|aK j7 fun u1=>some (pI 2,u1.hp)) (cc 107 [.box 0 0,pI m,pB false] O.hp fun f1 j8=>ba f1 fun p6=>aj p6<|aK j8 fun u2=>some (pI 2,u2.hp))) (i,x,false,c)) (iL (be s [43]) (kE cc n (fun(o,p,b4,P)=>iL b4 (cc 107 [.box 0 0,pI o,pB true] P.hp fun f2 j9=>ba f2 fun p8=>aj p8<|aK j9 fun u3=>some (pI p,u3.hp)) (cc 107 [.box 0 0,pI o,pB false] P.hp fun f3 l0=>ba f3 fun p9=>aj p9<|aK l0 fun u5=>some (pI p,u5.hp))) (i,x,false,c)) (iL (be s [45]) (c7 cc n (fun(q,b5,S)=>iL b5 (cc 107 [.box 0 0,pI q,pB true] S.hp fun f4 l1=>ba f4 fun q0=>aj q0<|aK l1 fun u6=>some (pI 1,u6.hp)) (cc 107 [.box 0 0,pI q,pB false] S.hp fun f5 l2=>ba f5 fun q1=>aj q1<|aK l2 fun u8=>some (pI 1,u8.hp))) (i,x,false,c)) (iL (be s [42]) (c7 cc n (fun(r,b7,T)=>iL b7 (cc 107 [.box 0 0,pI r,pB true] T.hp fun f7 l3=>ba f7 fun q2=>aj q2<|aK l3 fun u9=>some (pI 1,u9.hp)) (cc 107 [.box 0 0,pI r,pB false] T.hp fun f8 l5=>ba f8 fun q3=>aj q3<|aK l5 fun v0=>some (pI 1,v0.hp))) (i,x,false,c)) (iL (be s [47]) (c7 cc n (fun(t,b8,U)=>iL b8 (cc 107 [.box 0 0,pI t,pB true] U.hp fun f9 l6=>ba f9 fun q4=>aj q4<|aK l6 fun v1=>some (pI 1,v1.hp)) (cc 107 [.box 0 0,pI t,pB false] U.hp fun g0 l7=>ba g0 fun q6=>aj q6<|aK l7 fun v2=>some (pI 1,v2.hp))) (i,x,false,c)) (iL (be s [37]) (c7 cc n (fun(u,b9,V)=>iL b9 (cc 107 [.box 0 0,pI u,pB true] V.hp fun g1 l8=>ba g1 fun q7=>aj q7<|aK l8 fun v4=>some (pI 1,v4.hp)) (cc 107 [.box 0 0,pI u,pB false] V.hp fun g2 l9=>ba g2 fun q8=>aj q8<|aK l9 fun v5=>some (pI 1,v5.hp))) (i,x,false,c)) (cc 107 [.box 0 0,pI i,pB false] c.hp fun g3 m0=>ba g3 fun q9=>aj q9<|aK m0 fun v6=>some (pI 2,v6.hp)))))))))))))
def QH (n:Nat)(c:eM)(i:Int)(s:LN)(x:Int)(y:Int):=ij (fun cc=>Bg cc n c i s x y) 154 [.box 0 0,pI i,pS s,pI x,pI y] c.hp 6 n aL (fun cc=>td cc n) (fun hc=>bm (gN (gN (gN (EP hc n)))) (bm (gN (gN (EQ hc n))) (bm (gN (ER hc n)) (bm (ES hc n) aH))))
def tZ (n:Nat)(a:LN):R:=iL (!be a []) (iL (bw (↑a.length) 32) (cc 85 [pS a] [] fun c f=>dP c fun h=>bg .i64 h fun e=>aj f<|iL (az e ↑a.length) (cc 86 [pS a] [] fun d g=>dP d fun i=>aB i fun b=>aj g<|iL b rF rT) rF) rF) rF
def QN (n:Nat)(a:LN):=dG (fun cc=>tZ cc n a) 65 [pS a] [] 0 n aL
def ra (cc:ab)(n:Nat)(a:LN):R:=iL (be a [97,99,116,111,114]) rT (iL (be a [115,116,97,116,101]) rT (iL (be a [109,101,116,104,111,100]) rT (iL (be a [108,101,116]) rT (iL (be a [105,102]) rT (iL (be a [101,108,115,101]) rT (iL (be a [119,104,105,108,101]) rT (iL (be a [114,101,116,117,114,110]) rT (iL (be a [102,97,105,108]) rT (iL (be a [99,97,108,108]) rT (iL (be a [101,109,105,116]) rT (iL (be a [114,101,109,105,110,100]) rT (iL (be a [99,97,110,99,101,108]) rT (iL (be a [115,101,108,102]) rT (iL (be a [116,114,117,101]) rT (iL (be a [102,97,108,115,101]) rT (iL (be a [105,110,116]) rT (iL (be a [98,111,111,108]) rT (iL (be a [115,116,114,105,110,103]) rT (iL (be a [105,110,116,115]) rT (iL (be a [115,116,114,105,110,103,115]) rT rF))))))))))))))))))))
def Dg (n:Nat)(a:LN):=dG (fun cc=>ra cc n a) 86 [pS a] [] 0 n aL
def NS (n:Nat)(a:LN):R:=iL (be a []) (some (pI 0,[])) (cL (bif bw 0 0 then a[Int.toNat 0]? else none) fun f=>cc 122 [.p (.int .u8 (Int.ofNat f))] [] fun c g=>dP c fun i=>aB i fun b=>aj g<|iL b (cc 83 [pS a,.p (.fn 123 [])] [] fun d h=>dP d fun j=>bg .i64 j fun e=>aj h<|some (pI e,[])) (some (pI 0,[])))
def Y7 (n:Nat)(a:LN):=dG (fun cc=>NS cc n a) 85 [pS a] [] 0 n aL
def Gq (n:Nat)(a:Int):R:=cc 122 [.p (.int .u8 a)] [] fun d f=>dP d fun h=>aB h fun b=>aj f<|iL b rT (cc 87 [.p (.int .u8 a)] [] fun e g=>dP e fun i=>aB i fun c=>aj g<|iL c rT rF)
def Ut (n:Nat)(a:Int):=dG (fun cc=>Gq cc n a) 123 [.p (.int .u8 a)] [] 0 n aL
def Bm (cc:ab)(n:Nat)(a:Int):R:=iL (bw 97 a) (iL (bw a 122) rT (iL (bw 65 a) (iL (bw a 90) rT (iL (az a 95) rT rF)) (iL (az a 95) rT rF))) (iL (bw 65 a) (iL (bw a 90) rT (iL (az a 95) rT rF)) (iL (az a 95) rT rF))
def QO (n:Nat)(a:Int):=dG (fun cc=>Bm cc n a) 122 [.p (.int .u8 a)] [] 0 n aL
def Gp (cc:ab)(n:Nat)(a:Int):R:=iL (bw 48 a) (iL (bw a 57) rT rF) rF
def Us (n:Nat)(a:Int):=dG (fun cc=>Gp cc n a) 87 [.p (.int .u8 a)] [] 0 n aL
def Sk:=bU (eJ 83).body 1 0
abbrev xZ:=LN×Int
def rp (n:Nat)(c:(LN)×Int->R)(Y:xZ->R):xZ->R:=fun(b,a)=>iL (aP a ↑b.length) (cL (bif bw 0 a then b[Int.toNat a]? else none) fun f=>cc 123 [.p (.int .u8 (Int.ofNat f))] [] fun e g=>dP e fun h=>aB h fun d=>aW [] g<|iL d (Y (b,aq .i64 (a+1))) (c (b,a))) (c (b,a))
def SP:Rd dT xZ:= .tl<| .s 0<| .v 1 (.P (.FP 123 .n))<| .i 5<| .h .n
def Ui (J:JJ):=rp cc n (fun(a,b)=>J (.exit 0) (tS 0 a<| .cons 1 (.p (.fn 123 []))<|tI 5 b<|tB 16 false .nil) [])
def CQ:cQ:=gm 423 SP (Ui cc n) cK
def SB {cc call}(hc:bF cc call)(n):bv (CQ cc n) call n 0 (423,[0,1,5],Sk,true):=cE aL hc aH
def T8 (s:LN):R:=itL (rp cc n (fun(b,a)=>some (pI a,[]))) n (s,0)
def š (n:Nat)(s:LN):=ij (fun cc=>T8 cc n s) 83 [pS s,.p (.fn 123 [])] [] 0 n aL (fun cc=>CQ cc n) (fun hc=>bm (SB hc n) aH)
def IL:=bU (eJ 73).body 1 0
def IM:=bU (eJ 73).body 1 1
def IN:=bU (eJ 73).body 1 2
def IR:=bU (eJ 73).body 1 3
def IS:=bU (eJ 73).body 1 4
def IP:=bU (eJ 73).body 1 5
def IQ:=bU (eJ 73).body 1 6
abbrev ye:=ah
def mN (cc:ab)(n:Nat)(b:Bool×ah->R):ye->R:=fun a=>iL (aP a.Kind 0) (b (true,a)) (iL (aP 5 a.Kind) (b (true,a)) (b (false,a)))
def JX:Rd dT ye:= .rm (.o 1 0<| .h (.c (.Ob (.ci<| .ci<| .cs<| .cl 1<| .cl 1 .n)) .n)) (fun((b,(c,(d,(e,(f,()))))),())=>(ah.mk b c d e f)) (fun a=>((a.Kind,(a.N,(a.S,(a.I,(a.L,()))))),()))
def K3 (J:JJ):=mN cc n (fun(a,b)=>J .norm (tO 1 0<|tB 12 a .nil) [b.b])
def vX:cQ:=xn 101 JX (K3 cc n) cK
def Js {cc call}(hc:bF cc call)(n):bv (vX cc n) call n 0 (101,[1],IL,false):=lX ge hc aH
abbrev yf:=ah
def mP (cc:ab)(n:Nat)(b:Bool×ah->R):yf->R:=fun a=>iL (!az a.N 0) (iL (!az a.Kind 1) (iL (!az a.Kind 2) (b (true,a)) (iL (!az a.N 1) (b (true,a)) (b (false,a)))) (b (false,a))) (b (false,a))
def JY:Rd dT yf:= .rm (.o 1 0<| .h (.c (.Ob (.ci<| .ci<| .cs<| .cl 1<| .cl 1 .n)) .n)) (fun((b,(c,(d,(e,(f,()))))),())=>(ah.mk b c d e f)) (fun a=>((a.Kind,(a.N,(a.S,(a.I,(a.L,()))))),()))
def K4 (J:JJ):=mP cc n (fun(a,b)=>J .norm (tO 1 0<|tB 13 a .nil) [b.b])
def vY:cQ:=xn 1693 JY (K4 cc n) (vX cc n)
def Jt {cc call}(hc:bF cc call)(n):bv (vY cc n) call n 0 (1693,[1],IM,false):=lX ge hc aH
abbrev yg:=ah
def mQ (cc:ab)(n:Nat)(b:Bool×ah->R):yg->R:=fun a=>iL (!be a.S []) (iL (!az a.Kind 3) (b (true,a)) (b (false,a))) (b (false,a))
def JZ:Rd dT yg:= .rm (.o 1 0<| .h (.c (.Ob (.ci<| .ci<| .cs<| .cl 1<| .cl 1 .n)) .n)) (fun((b,(c,(d,(e,(f,()))))),())=>(ah.mk b c d e f)) (fun a=>((a.Kind,(a.N,(a.S,(a.I,(a.L,()))))),()))
def K5 (J:JJ):=mQ cc n (fun(a,b)=>J .norm (tO 1 0<|tB 32 a .nil) [b.b])
def vZ:cQ:=xn 108453 JZ (K5 cc n) (vY cc n)
def Ju {cc call}(hc:bF cc call)(n):bv (vZ cc n) call n 0 (108453,[1],IN,false):=lX ge hc aH
abbrev yh:=ah
def hR (cc:ab)(n:Nat)(b:Bool×ah->R):yh->R:=fun a=>iL (aP 64 ↑a.S.length) (b (true,a)) (iL (aP 16 ↑a.I.length) (b (true,a)) (iL (aP 16 ↑a.L.length) (b (true,a)) (b (false,a))))
def J0:Rd dT yh:= .rm (.o 1 0<| .h (.c (.Ob (.ci<| .ci<| .cs<| .cl 1<| .cl 1 .n)) .n)) (fun((b,(c,(d,(e,(f,()))))),())=>(ah.mk b c d e f)) (fun a=>((a.Kind,(a.N,(a.S,(a.I,(a.L,()))))),()))
def K6 (J:JJ):=hR cc n (fun(a,b)=>J .norm (tO 1 0<|tB 74 a .nil) [b.b])
def wc:cQ:=xn 1701 J0 (K6 cc n) (vZ cc n)
def Jv {cc call}(hc:bF cc call)(n):bv (wc cc n) call n 0 (1701,[1],IP,false):=lX ge hc aH
abbrev mD:=LD×Int×Int
def hU (cc:ab)(n:Nat)(d:R)(e:mD->R)(Y:mD->R):mD->R:=fun(c,b,a)=>iL (aP a b) (cL (bA c a) fun g=>ja g fun f=>iL (aP 64 ↑f.length) (d) (Y (c,b,aq .i64 (a+1)))) (e (c,b,a))
def J1:Rd dT mD:= .tl<| .l 76 1<| .i 77<| .i 78<| .h .n
def K7 (J:JJ):=hU cc n (J .ret (tB 2 false .nil) []) (fun(a,b,c)=>J (.exit 1) (tL 76 1 a<|tI 77 b<|tI 78 c<|tB 79 false .nil) [])
def wd:cQ:=gm 27291 J1 (K7 cc n) (wc cc n)
def Jw {cc call}(hc:bF cc call)(n):bv (wd cc n) call n 0 (27291,[76,77,78],IQ,true):=cE ge hc aH
abbrev yi:=ah
def mR (cc:ab)(n:Nat)(b:Bool×ah->R):yi->R:=fun a=>iL (aP 0 ↑a.I.length) (iL (!az a.Kind 4) (b (true,a)) (b (false,a))) (b (false,a))
def J2:Rd dT yi:= .rm (.o 1 0<| .h (.c (.Ob (.ci<| .ci<| .cs<| .cl 1<| .cl 1 .n)) .n)) (fun((b,(c,(d,(e,(f,()))))),())=>(ah.mk b c d e f)) (fun a=>((a.Kind,(a.N,(a.S,(a.I,(a.L,()))))),()))
def K8 (J:JJ):=mR cc n (fun(a,b)=>J .norm (tO 1 0<|tB 32 a .nil) [b.b])
def we:cQ:=xn 1735273 J2 (K8 cc n) (wd cc n)
def Jx {cc call}(hc:bF cc call)(n):bv (we cc n) call n 0 (1735273,[1],IR,false):=lX ge hc aH
abbrev yj:=ah
def mS (cc:ab)(n:Nat)(b:Bool×ah->R):yj->R:=fun a=>iL (aP 0 ↑a.L.length) (iL (!az a.Kind 5) (b (true,a)) (b (false,a))) (b (false,a))
def J3:Rd dT yj:= .rm (.o 1 0<| .h (.c (.Ob (.ci<| .ci<| .cs<| .cl 1<| .cl 1 .n)) .n)) (fun((b,(c,(d,(e,(f,()))))),())=>(ah.mk b c d e f)) (fun a=>((a.Kind,(a.N,(a.S,(a.I,(a.L,()))))),()))
def K9 (J:JJ):=mS cc n (fun(a,b)=>J .norm (tO 1 0<|tB 32 a .nil) [b.b])
def wg:cQ:=xn 6941098 J3 (K9 cc n) (we cc n)
def Jy {cc call}(hc:bF cc call)(n):bv (wg cc n) call n 0 (6941098,[1],IS,false):=lX ge hc aH
def xX (p:ah):R:=mN cc n (fun(i,q)=>iL i rF (mP cc n (fun(o,s)=>iL o rF (mQ cc n (fun(b,g)=>iL b (iL b rF (hR cc n (fun(h,c)=>iL h rF (itL (hU cc n rF (fun(z,t,u)=>rT)) n (c.L,↑c.L.length,0))) g)) (mR cc n (fun(a,d)=>iL a (iL a rF (hR cc n (fun(j,e)=>iL j rF (itL (hU cc n rF (fun(A,v,w)=>rT)) n (e.L,↑e.L.length,0))) d)) (mS cc n (fun(l,r)=>iL l rF (hR cc n (fun(m,f)=>iL m rF (itL (hU cc n rF (fun(B,x,y)=>rT)) n (f.L,↑f.L.length,0))) r)) d)) g)) s)) q)) p
def U0 (n:Nat)(a:ah):=ij (fun cc=>xX cc n a) 73 [.p a.e] [] 0 n ge (fun cc=>wg cc n) (fun hc=>bm (gN (gN (EG (gN (gN (gN (Js hc n))))))) (bm (gN (gN (EG (gN (gN (Jt hc n)))))) (bm (gN (gN (EG (gN (Ju hc n))))) (bm (gN (Jx hc n)) (bm (Jy hc n) (bm (gN (gN (EG (Jv hc n)))) (bm (gN (gN (Jw hc n))) aH)))))))
def N7 (n:Nat)(a:ah)(b:ah):R:=iL (az a.Kind b.Kind) (iL (az a.N b.N) (iL (be a.S b.S) (cc 74 [pL 1 a.I,pL 1 b.I] [] fun e g=>dP e fun i=>aB i fun c=>aj g<|iL c (cc 75 [pL 1 a.L,pL 1 b.L] [] fun f h=>dP f fun j=>aB j fun d=>aj h<|iL d rT rF) rF) rF) rF) rF
def Zl (n:Nat)(a:ah)(b:ah):=dG (fun cc=>N7 cc n a b) 39 [.p a.e,.p b.e] [] 0 n aL
def IT:=bU (eJ 74).body 1 0
abbrev mE:=LD×LD×Int×Int
def mT (cc:ab)(n:Nat)(g:R)(h:mE->R)(Y:mE->R):mE->R:=fun(c,d,b,a)=>iL (aP a b) (cL (bA c a) fun i=>bg .i64 i fun e=>cL (bA d a) fun j=>bg .i64 j fun f=>iL (!az e f) (g) (Y (c,d,b,aq .i64 (a+1)))) (h (c,d,b,a))
def J4:Rd dT mE:= .tl<| .l 0 1<| .l 1 1<| .i 12<| .i 13<| .h .n
def La (J:JJ):=mT cc n (J .ret (tB 4 false .nil) []) (fun(a,b,c,d)=>J (.exit 0) (tL 0 1 a<|tL 1 1 b<|tI 12 c<|tI 13 d<|tB 14 false .nil) [])
def wh:cQ:=gm 1691 J4 (La cc n) cK
def Jz {cc call}(hc:bF cc call)(n):bv (wh cc n) call n 0 (1691,[0,1,12,13],IT,true):=cE aL hc aH
def GU (a:LD)(b:LD):R:=iL (!az ↑a.length ↑b.length) rF (itL (mT cc n rF (fun(f,e,c,d)=>rT)) n (a,b,↑a.length,0))
def U1 (n:Nat)(a:LD)(b:LD):=ij (fun cc=>GU cc n a b) 74 [pL 1 a,pL 1 b] [] 0 n aL (fun cc=>wh cc n) (fun hc=>bm (Jz hc n) aH)
def IU:=bU (eJ 75).body 1 0
abbrev mF:=LD×LD×Int×Int
def mU (cc:ab)(n:Nat)(e:R)(f:mF->R)(Y:mF->R):mF->R:=fun(c,d,b,a)=>iL (aP a b) (cL (bA c a) fun i=>ja i fun g=>cL (bA d a) fun j=>ja j fun h=>iL (!be g h) (e) (Y (c,d,b,aq .i64 (a+1)))) (f (c,d,b,a))
def J5:Rd dT mF:= .tl<| .l 0 1<| .l 1 1<| .i 12<| .i 13<| .h .n
def Lb (J:JJ):=mU cc n (J .ret (tB 4 false .nil) []) (fun(a,b,c,d)=>J (.exit 0) (tL 0 1 a<|tL 1 1 b<|tI 12 c<|tI 13 d<|tB 14 false .nil) [])
def wi:cQ:=gm 1691 J5 (Lb cc n) cK
def JA {cc call}(hc:bF cc call)(n):bv (wi cc n) call n 0 (1691,[0,1,12,13],IU,true):=cE ge hc aH
def GV (a:LD)(b:LD):R:=iL (!az ↑a.length ↑b.length) rF (itL (mU cc n rF (fun(f,e,c,d)=>rT)) n (a,b,↑a.length,0))
def U2 (n:Nat)(a:LD)(b:LD):=ij (fun cc=>GV cc n a b) 75 [pL 1 a,pL 1 b] [] 0 n ge (fun cc=>wi cc n) (fun hc=>bm (JA hc n) aH)
def NY (n:Nat)(d:ah)(e:ah):R:=cc 39 [.p d.e,.p e.e] [] fun b c=>dP b fun f=>aB f fun a=>aj c<|iL a rT rF
def Zd (n:Nat)(a:ah)(b:ah):=dG (fun cc=>NY cc n a b) 145 [.p a.e,.p b.e] [] 0 n aL
def Gv (n:Nat)(d:LD)(e:Int):R:=cc 136 [pL 1 d,pI e] [] fun a c=>dP a fun f=>bg .i64 f fun b=>aj c<|iL (bw 0 b) rT rF
def Uz (n:Nat)(a:LD)(b:Int):=dG (fun cc=>Gv cc n a b) 98 [pL 1 a,pI b] [] 0 n aL
def Mn:=bU (eJ 136).body 1 0
abbrev oP:=LD×Int×Int×Int
def oX (cc:ab)(n:Nat)(f:Int->R)(g:oP->R)(Y:oP->R):oP->R:=fun(d,b,c,a)=>iL (aP a c) (cL (bA d a) fun h=>bg .i64 h fun e=>iL (az b e) (f a) (Y (d,b,c,aq .i64 (a+1)))) (g (d,b,c,a))
def M6:Rd dT oP:= .tl<| .l 0 1<| .i 1<| .i 7<| .i 8<| .h .n
def Qy (J:JJ):=oX cc n (fun a=>J .ret (tI 4 a .nil) []) (fun(a,b,c,d)=>J (.exit 0) (tL 0 1 a<|tI 1 b<|tI 7 c<|tI 8 d<|tB 9 false .nil) [])
def zZ:cQ:=gm 411 M6 (Qy cc n) cK
def MI {cc call}(hc:bF cc call)(n):bv (zZ cc n) call n 0 (411,[0,1,7,8],Mn,true):=cE aL hc aH
def NU (a:LD)(c:Int):R:=itL (oX cc n (fun b=>some (pI b,[])) (fun(g,f,d,e)=>some (pI (-1),[]))) n (a,c,↑a.length,0)
def Y9 (n:Nat)(a:LD)(b:Int):=ij (fun cc=>NU cc n a b) 136 [pL 1 a,pI b] [] 0 n aL (fun cc=>zZ cc n) (fun hc=>bm (MI hc n) aH)
def Gx (n:Nat)(d:LD)(e:LN):R:=cc 181 [pL 1 d,pS e] [] fun a c=>dP a fun f=>bg .i64 f fun b=>aj c<|iL (bw 0 b) rT rF
def UB (n:Nat)(a:LD)(b:LN):=dG (fun cc=>Gx cc n a b) 146 [pL 1 a,pS b] [] 0 n ge
def Mo:=bU (eJ 181).body 1 0
abbrev t6:=LD×LN×Int×Int
def oY (cc:ab)(n:Nat)(e:Int->R)(f:LD×(LN)×Int×Int->R)(Y:t6->R):t6->R:=fun(c,d,b,a)=>iL (aP a b) (cL (bA c a) fun h=>ja h fun g=>iL (be d g) (e a) (Y (c,d,b,aq .i64 (a+1)))) (f (c,d,b,a))
def M7:Rd dT t6:= .tl<| .l 0 1<| .s 1<| .i 7<| .i 8<| .h .n
def Qz (J:JJ):=oY cc n (fun a=>J .ret (tI 4 a .nil) []) (fun(a,b,c,d)=>J (.exit 0) (tL 0 1 a<|tS 1 b<|tI 7 c<|tI 8 d<|tB 9 false .nil) [])
def z6:cQ:=gm 411 M7 (Qz cc n) cK
def MJ {cc call}(hc:bF cc call)(n):bv (z6 cc n) call n 0 (411,[0,1,7,8],Mo,true):=cE ge hc aH
def NV (a:LD)(c:LN):R:=itL (oY cc n (fun b=>some (pI b,[])) (fun(f,g,d,e)=>some (pI (-1),[]))) n (a,c,↑a.length,0)
def Za (n:Nat)(a:LD)(b:LN):=ij (fun cc=>NV cc n a b) 181 [pL 1 a,pS b] [] 0 n ge (fun cc=>z6 cc n) (fun hc=>bm (MJ hc n) aH)
def BD (cc:ab)(n:Nat)(a:Int):R:=iL (bw 1 a) (iL (bw a 5) rT rF) rF
def Q2 (n:Nat)(a:Int):=dG (fun cc=>BD cc n a) 97 [pI a] [] 0 n aL
def Iy:=bU (eJ 155).body 1 0
def Iz:=bU (eJ 155).body 1 1
abbrev hD:=Int×Int×Int×LD×Int×Int×eM
def ga (n:Nat)(l:hD->R)(Y:hD->R):hD->R:=fun(a,c,f,e,d,b,g)=>iL (aP b d) (cL (bA e b) fun t=>bg .i64 t fun j=>iL (az j c) (cc 107 [.box 0 0,pI a,pB true] g.hp fun h m=>ba h fun p=>aj p<|aK m fun r=>Y (a,c,f,e,d,aq .i64 (b+1),r)) (cc 107 [.box 0 0,pI a,pB false] g.hp fun i o=>ba i fun q=>aj q<|aK o fun s=>Y (a,c,f,e,d,aq .i64 (b+1),s))) (l (a,c,f,e,d,b,g))
def JI:Rd dT hD:= .o 0 0<| .i 1<| .i 9<| .i 10<| .l 25 1<| .i 26<| .i 27<| .h r_Ckr
def KN (J:JJ):=ga cc n (fun(a,b,c,d,e,f,g)=>J (.exit 0) (tO 0 0<|tI 1 a<|tI 9 b<|tI 10 c<|tL 25 1 d<|tI 26 e<|tI 27 f<|tB 28 false .nil) g.hp)
def vJ:cQ:=gm 419483 JI (KN cc n) cK
def Je {cc call}(hc:bF cc call)(n):bv (vJ cc n) call n 6 (419483,[0,1,9,10,25,26,27],Iy,true):=cE DG hc aH
abbrev hH:=Int×LD×LD×Int×Int×eM
def fq (n:Nat)(j:Int×eM×bX->R)(l:hH->R)(Y:hH->R):hH->R:=fun(g,c,d,b,a,e)=>iL (aP a b) (cL (bA d a) fun o=>fe o fun f=>cc 137 [pL 1 f.params,pL 1 c] [] fun i m=>dP i fun p=>aB p fun h=>aW [] m<|iL h (j (f.result,e,f)) (Y (g,c,d,b,aq .i64 (a+1),e))) (l (g,c,d,b,a,e))
def JK:Rd dT hH:= .o 0 0<| .i 1<| .l 3 1<| .l 50 2<| .i 51<| .i 52<| .h r_Ckr
def KO (J:JJ):=fq cc n (fun(b,a,c)=>J .ret (tI 8 b .nil) [.box [pL 3 a.pr,.p (.map a.fk a.fv),(.map 1),(.map 2),pL 8 a.ns,pI a.re,.arr 3 0 a.ln 2,(.map 4),(.map 5),pI a.nd,pI a.er],(.map a.sk a.sv),(.map a.lk a.lv),.arr a.lo,(.map a.kk a.kv),(.map a.vk a.vv),c.b]) (fun(b,a,c,d,e,f)=>J (.exit 2) (tO 0 0<|tI 1 b<|tL 3 1 a<|tL 50 2 c<|tI 51 d<|tI 52 e<|tB 53 false .nil) f.hp)
def vK:cQ:=gm 27291 JK (KO cc n) (vJ cc n)
def Jf {cc call}(hc:bF cc call)(n):bv (vK cc n) call n 6 (27291,[0,1,3,50,51,52],Iz,true):=cE DG hc aH
def Gi (c:eM)(i:Int)(s:LN)(l:LD):R:=iL (be s [105,110,116,115]) (iL (be s [115,116,114,105,110,103,115]) (itL (ga cc n (fun(b5,b6,p,e1,b7,b8,X)=>some (pI p,X.hp))) n (i,3,5,l,↑l.length,0,c)) (itL (ga cc n (fun(b9,c0,q,e2,c1,c2,Z)=>some (pI q,Z.hp))) n (i,1,4,l,↑l.length,0,c))) (iL (be s [115,116,114,105,110,103,115]) (iL (be s [115,116,114,105,110,103,115]) (itL (ga cc n (fun(c3,c4,r,e3,c5,c6,a0)=>some (pI r,a0.hp))) n (i,3,5,l,↑l.length,0,c)) (itL (ga cc n (fun(c7,c8,t,e4,c9,d0,a1)=>some (pI t,a1.hp))) n (i,1,4,l,↑l.length,0,c))) (cc 187 [] [] fun e E=>ib (.p (.map [Da.str [108,101,110],Da.str [97,116],Da.str [97,112,112,101,110,100],Da.str [115,101,116],Da.str [115,116,114]] [Da.slice 2 [Da.agg [Da.slice 1 [Da.int .i64 3],Da.int .i64 1],Da.agg [Da.slice 1 [Da.int .i64 4],Da.int .i64 1],Da.agg [Da.slice 1 [Da.int .i64 5],Da.int .i64 1]],Da.slice 2 [Da.agg [Da.slice 1 [Da.int .i64 4,Da.int .i64 1],Da.int .i64 1],Da.agg [Da.slice 1 [Da.int .i64 5,Da.int .i64 1],Da.int .i64 3]],Da.slice 2 [Da.agg [Da.slice 1 [Da.int .i64 4,Da.int .i64 1],Da.int .i64 4],Da.agg [Da.slice 1 [Da.int .i64 5,Da.int .i64 3],Da.int .i64 5]],Da.slice 2 [Da.agg [Da.slice 1 [Da.int .i64 4,Da.int .i64 1,Da.int .i64 1],Da.int .i64 4],Da.agg [Da.slice 1 [Da.int .i64 5,Da.int .i64 1,Da.int .i64 3],Da.int .i64 5]],Da.slice 2 [Da.agg [Da.slice 1 [Da.int .i64 1],Da.int .i64 3]]])) e<|aW [] E<|iL (be s [108,101,110]) (itL (fq cc n (fun(u,a2,f3)=>some (pI u,a2.hp)) (fun(v,e5,e6,d1,d2,a3)=>cc 150 [.box 0 0,pI v,pI 15] a3.hp fun f F=>ba f fun L=>aj L<|aK F fun a4=>some (pI 0,a4.hp))) n (i,l,[Da.agg [Da.slice 1 [Da.int .i64 3],Da.int .i64 1],Da.agg [Da.slice 1 [Da.int .i64 4],Da.int .i64 1],Da.agg [Da.slice 1 [Da.int .i64 5],Da.int .i64 1]],3,0,c)) (iL (be s [97,116]) (itL (fq cc n (fun(w,a5,f4)=>some (pI w,a5.hp)) (fun(x,e7,e8,d3,d4,a6)=>cc 150 [.box 0 0,pI x,pI 15] a6.hp fun g G=>ba g fun M=>aj M<|aK G fun a7=>some (pI 0,a7.hp))) n (i,l,[Da.agg [Da.slice 1 [Da.int .i64 4,Da.int .i64 1],Da.int .i64 1],Da.agg [Da.slice 1 [Da.int .i64 5,Da.int .i64 1],Da.int .i64 3]],2,0,c)) (iL (be s [97,112,112,101,110,100]) (itL (fq cc n (fun(y,a8,f5)=>some (pI y,a8.hp)) (fun(z,e9,f0,d5,d6,a9)=>cc 150 [.box 0 0,pI z,pI 15] a9.hp fun h H=>ba h fun N=>aj N<|aK H fun b0=>some (pI 0,b0.hp))) n (i,l,[Da.agg [Da.slice 1 [Da.int .i64 4,Da.int .i64 1],Da.int .i64 4],Da.agg [Da.slice 1 [Da.int .i64 5,Da.int .i64 3],Da.int .i64 5]],2,0,c)) (iL (be s [115,101,116]) (itL (fq cc n (fun(A,O,f1)=>some (pI A,O.hp)) (fun(j,d7,d8,b1,b2,P)=>cc 150 [.box 0 0,pI j,pI 15] P.hp fun a B=>ba a fun I=>aj I<|aK B fun S=>some (pI 0,S.hp))) n (i,l,[Da.agg [Da.slice 1 [Da.int .i64 4,Da.int .i64 1,Da.int .i64 1],Da.int .i64 4],Da.agg [Da.slice 1 [Da.int .i64 5,Da.int .i64 1,Da.int .i64 3],Da.int .i64 5]],2,0,c)) (iL (be s [115,116,114]) (itL (fq cc n (fun(m,T,f2)=>some (pI m,T.hp)) (fun(o,d9,e0,b3,b4,U)=>cc 150 [.box 0 0,pI o,pI 15] U.hp fun b C=>ba b fun J=>aj J<|aK C fun V=>some (pI 0,V.hp))) n (i,l,[Da.agg [Da.slice 1 [Da.int .i64 1],Da.int .i64 3]],1,0,c)) (cc 150 [.box 0 0,pI i,pI 14] c.hp fun d D=>ba d fun K=>aj K<|aK D fun W=>some (pI 0,W.hp))))))))
def Um (n:Nat)(c:eM)(i:Int)(s:LN)(l:LD):=ij (fun cc=>Gi cc n c i s l) 155 [.box 0 0,pI i,pS s,pL 1 l] c.hp 6 n DG (fun cc=>vK cc n) (fun hc=>bm (EG (Je hc n)) (bm (Jf hc n) aH))
def KH (cc:ab)(n:Nat):R:=some (.p (.map [Da.str [108,101,110],Da.str [97,116],Da.str [97,112,112,101,110,100],Da.str [115,101,116],Da.str [115,116,114]] [Da.slice 2 [Da.agg [Da.slice 1 [Da.int .i64 3],Da.int .i64 1],Da.agg [Da.slice 1 [Da.int .i64 4],Da.int .i64 1],Da.agg [Da.slice 1 [Da.int .i64 5],Da.int .i64 1]],Da.slice 2 [Da.agg [Da.slice 1 [Da.int .i64 4,Da.int .i64 1],Da.int .i64 1],Da.agg [Da.slice 1 [Da.int .i64 5,Da.int .i64 1],Da.int .i64 3]],Da.slice 2 [Da.agg [Da.slice 1 [Da.int .i64 4,Da.int .i64 1],Da.int .i64 4],Da.agg [Da.slice 1 [Da.int .i64 5,Da.int .i64 3],Da.int .i64 5]],Da.slice 2 [Da.agg [Da.slice 1 [Da.int .i64 4,Da.int .i64 1,Da.int .i64 1],Da.int .i64 4],Da.agg [Da.slice 1 [Da.int .i64 5,Da.int .i64 1,Da.int .i64 3],Da.int .i64 5]],Da.slice 2 [Da.agg [Da.slice 1 [Da.int .i64 1],Da.int .i64 3]]]),[])
def Lg (n:Nat):=dG (fun cc=>KH cc n) 187 [] [] 0 n aL
def pN (n:Nat)(c:eM)(i:Int)(x:af)(l:LD):R:=iL (az x.Op 1) (some (pI x.Value_Kind,c.hp)) (iL (az x.Op 3) (some (pI 3,c.hp)) (iL (az x.Op 2) (cc 153 [.box 0 0,pI i,pS x.Name] c.hp fun a u=>dP a fun P=>aV P fun K=>aK u fun L=>some (pI K.kind,L.hp)) (iL (az x.Op 4) (iL (be x.Name [33]) (cL (bA l 0) fun U=>bg .i64 U fun r=>iL (az r 2) (cc 107 [.box 0 0,pI i,pB true] c.hp fun h z=>ba h fun A=>aj A<|aK z fun E=>some (pI 2,E.hp)) (cc 107 [.box 0 0,pI i,pB false] c.hp fun b s=>ba b fun B=>aj B<|aK s fun F=>some (pI 2,F.hp))) (cL (bA l 0) fun M=>bg .i64 M fun j=>iL (az j 1) (cc 107 [.box 0 0,pI i,pB true] c.hp fun d t=>ba d fun C=>aj C<|aK t fun G=>some (pI 1,G.hp)) (cc 107 [.box 0 0,pI i,pB false] c.hp fun e v=>ba e fun D=>aj D<|aK v fun H=>some (pI 1,H.hp)))) (iL (az x.Op 5) (cL (bA l 0) fun N=>bg .i64 N fun m=>cL (bA l 1) fun O=>bg .i64 O fun o=>cc 154 [.box 0 0,pI i,pS x.Name,pI m,pI o] c.hp fun f w=>dP f fun S=>bg .i64 S fun p=>aK w fun I=>some (pI p,I.hp)) (cc 155 [.box 0 0,pI i,pS x.Name,pL 1 l] c.hp fun g y=>dP g fun T=>bg .i64 T fun q=>aK y fun J=>some (pI q,J.hp))))))
def AD (n:Nat)(c:eM)(i:Int)(x:af)(l:LD):=dG (fun cc=>pN cc n c i x l) 105 [.box 0 0,pI i,.p x.e,pL 1 l] c.hp 6 n aL
def q9 (n:Nat)(c:eM)(i:Int)(x:af)(l:LD):R:=iL (az x.Op 8) (cL (bA l 0) fun x1=>bg .i64 x1 fun J=>cc 156 [.box 0 0,pI i,.p x.e,pI J] c.hp fun p X=>ba p fun r5=>aj r5<|aK X fun u6=>some (.tup [],u6.hp)) (iL (az x.Op 9) (cc 153 [.box 0 0,pI i,pS x.Name] c.hp fun z o8=>dP z fun x9=>aV x9 fun c9=>aK o8 fun d1=>cL (bA l 0) fun e8=>bg .i64 e8 fun H=>cc 107 [.box 0 0,pI i,pB (az c9.kind H)] d1.hp fun h P=>ba h fun b4=>aj b4<|aK P fun d2=>some (.tup [],d2.hp)) (iL (az x.Op 11) (iL (az x.Op 11) (cL (bA l 0) fun e9=>bg .i64 e9 fun I=>cc 107 [.box 0 0,pI i,pB (az I 2)] c.hp fun j S=>ba j fun b5=>aj b5<|aK S fun d4=>some (.tup [],d4.hp)) (iL (az x.Op 13) (cc 107 [.box 0 0,pI i,pB (aP 0 ↑l.length==!az c.re 0)] c.hp fun m T=>ba m fun b6=>aj b6<|aK T fun a=>iL (az (↑l.length) 0) (cc 107 [.box 0 0,pI i,pB true] a.hp fun o U=>ba o fun b7=>aj b7<|aK U fun d5=>some (.tup [],d5.hp)) (cL (bA l 0) fun f0=>bg .i64 f0 fun K=>cc 107 [.box 0 0,pI i,pB (az K a.re)] a.hp fun q V=>ba q fun b8=>aj b8<|aK V fun d6=>some (.tup [],d6.hp))) (iL (az x.Op 15) (cc 137 [pL 1 l,pL 1 [Da.int .i64 3,Da.int .i64 1]] [] fun r W=>dP r fun f1=>aB f1 fun d=>aW [] W<|cc 107 [.box 0 0,pI i,pB d] c.hp fun s Z=>ba s fun b9=>aj b9<|aK Z fun d8=>some (.tup [],d8.hp)) (iL (az x.Op 16) (cc 137 [pL 1 l,pL 1 [Da.int .i64 3,Da.int .i64 1,Da.int .i64 1]] [] fun t a0=>dP t fun f2=>aB f2 fun e=>aW [] a0<|cc 107 [.box 0 0,pI i,pB e] c.hp fun u a1=>ba u fun c1=>aj c1<|aK a1 fun d9=>some (.tup [],d9.hp)) (iL (az x.Op 17) (cL (bA l 0) fun f3=>bg .i64 f3 fun L=>cc 107 [.box 0 0,pI i,pB (az L 3)] c.hp fun v a2=>ba v fun c2=>aj c2<|aK a2 fun e0=>some (.tup [],e0.hp)) (some (.tup [],c.hp))))))) (iL (az x.Op 12) (cL (bA l 0) fun f4=>bg .i64 f4 fun M=>cc 107 [.box 0 0,pI i,pB (az M 2)] c.hp fun w a3=>ba w fun c3=>aj c3<|aK a3 fun e2=>some (.tup [],e2.hp)) (iL (az x.Op 13) (cc 107 [.box 0 0,pI i,pB (aP 0 ↑l.length==!az c.re 0)] c.hp fun y a4=>ba y fun c4=>aj c4<|aK a4 fun b=>iL (az (↑l.length) 0) (cc 107 [.box 0 0,pI i,pB true] b.hp fun A a5=>ba A fun c5=>aj c5<|aK a5 fun e3=>some (.tup [],e3.hp)) (cL (bA l 0) fun f5=>bg .i64 f5 fun N=>cc 107 [.box 0 0,pI i,pB (az N b.re)] b.hp fun B a6=>ba B fun c6=>aj c6<|aK a6 fun e4=>some (.tup [],e4.hp))) (iL (az x.Op 15) (cc 137 [pL 1 l,pL 1 [Da.int .i64 3,Da.int .i64 1]] [] fun C a8=>dP C fun f6=>aB f6 fun f=>aW [] a8<|cc 107 [.box 0 0,pI i,pB f] c.hp fun D a9=>ba D fun c7=>aj c7<|aK a9 fun e5=>some (.tup [],e5.hp)) (iL (az x.Op 16) (cc 137 [pL 1 l,pL 1 [Da.int .i64 3,Da.int .i64 1,Da.int .i64 1]] [] fun E b0=>dP E fun f8=>aB f8 fun g=>aW [] b0<|cc 107 [.box 0 0,pI i,pB g] c.hp fun F b1=>ba F fun c8=>aj c8<|aK b1 fun e6=>some (.tup [],e6.hp)) (iL (az x.Op 17) (cL (bA l 0) fun f9=>bg .i64 f9 fun O=>cc 107 [.box 0 0,pI i,pB (az O 3)] c.hp fun G b2=>ba G fun b3=>aj b3<|aK b2 fun d0=>some (.tup [],d0.hp)) (some (.tup [],c.hp)))))))))
def Df (n:Nat)(c:eM)(i:Int)(x:af)(l:LD):=dG (fun cc=>q9 cc n c i x l) 106 [.box 0 0,pI i,.p x.e,pL 1 l] c.hp 1 n bh
def wY (n:Nat)(c:LD)(b:Int):R:=iL (aP b 0) rF (iL (bw (↑c.length) b) rF (cL (bA c b) fun o=>bf o fun a=>iL (az a.Op 13) rT (iL (az a.Op 14) rT (iL (az a.Op 11) (iL (az (↑a.Kids.length) 3) (cc 183 [pI 1,.box 0 0,.box 1 0,.box 2 0] [a.b,.box [pI b],.box [pL 8 c]] fun h l=>dP h fun q=>aB q fun f=>aW [a.b,.box [pI b],.box [pL 8 c]] l<|iL f (cc 183 [pI 2,.box 0 0,.box 1 0,.box 2 0] [a.b,.box [pI b],.box [pL 8 c]] fun i m=>dP i fun r=>aB r fun d=>aW [a.b,.box [pI b],.box [pL 8 c]] m<|iL d rT rF) rF) rF) (iL (az a.Op 18) (iL (aP 0 ↑a.Kids.length) (cc 183 [pI (aq .i64 (↑a.Kids.length - 1)),.box 0 0,.box 1 0,.box 2 0] [a.b,.box [pI b],.box [pL 8 c]] fun g j=>dP g fun p=>aB p fun e=>aW [a.b,.box [pI b],.box [pL 8 c]] j<|iL e rT rF) rF) rF)))))
def Dl (n:Nat)(a:LD)(b:Int):=dG (fun cc=>wY cc n a b) 148 [pL 8 a,pI b] [] 0 n aL
def GF (n:Nat)(x:af)(j:Int)(i:Int)(l:LD):R:=cL (bA x.Kids j) fun f=>bg .i64 f fun c=>iL (aP c i) (cL (bA x.Kids j) fun g=>bg .i64 g fun d=>cc 148 [pL 8 l,pI d] [] fun b e=>dP b fun h=>aB h fun a=>aj e<|iL a (some (pB true,[x.b,.box [pI i],.box [pL 8 l]])) (some (pB false,[x.b,.box [pI i],.box [pL 8 l]]))) (some (pB false,[x.b,.box [pI i],.box [pL 8 l]]))
def UJ (n:Nat)(x:af)(j:Int)(i:Int)(l:LD):=dG (fun cc=>GF cc n x j i l) 183 [pI j,.box 0 0,.box 1 0,.box 2 0] [.box [pI x.Op,pS x.Name,pI x.Value_Kind,pI x.Value_N,pS x.Value_S,pL 1 x.Value_I,pL 1 x.Value_L,pL 1 x.Kids],.box [pI i],.box [pL 8 l]] 3 n aL
def T9 (cc:ab)(n:Nat)(k:LD)(v:LD):R:=some ((.map 1),[(.map k v),(.map k v)])
def Uu (n:Nat)(k:LD)(v:LD):=dG (fun cc=>T9 cc n k v) 147 [.map 0] [.map k v] 1 n aL
def IB:=bU (eJ 72).body 1 0
abbrev qi:=Int×Bool×Nat×LD×Int×Int×eM×af×LD
def mH (n:Nat)(o:Int×Bool×Nat×LD×Int×Int×Bool×eM×af×LD->R)(Y:qi->R):qi->R:=fun(g,f,h,e,c,a,i,j,b)=>iL (aP a c) (cL (bA e a) fun r=>bg .i64 r fun m=>cc 72 [.box 0 0,pI m,pB false] i.hp fun l p=>dP l fun s=>bg .i64 s fun d=>aK p fun q=>iL (Nat.beq h (List.length b)) (iL (ce (List.length b+List.length [Da.int .i64 d]) 8) (Y (g,f,List.length (b++[Da.int .i64 d]),e,c,aq .i64 (a+1),q,j,b++[Da.int .i64 d])) (none)) (none)) (o (g,f,h,e,c,a,aP a c,i,j,b))
def JM:Rd dT qi:= .rm (.o 0 0<| .i 1<| .b 2<| .o 7 1<| .t 8 (.Ar 2 1)<| .l 27 1<| .i 28<| .i 29<| .h (.c (.Ob (.cl 3<| .c (.P .M)<| .u (.Mp 3)<| .u (.Mp 4)<| .cl 8<| .ci<| .c (.Ar 5 2)<| .u (.Mp 6)<| .u (.Mp 7)<| .ci<| .ci .n)) (.c (.Ob (.ci<| .cs<| .ci<| .ci<| .cs<| .cl 1<| .cl 1<| .cl 1 .n)) (.c .Oa<| .c .Om (.c .Om (.c .Oa<| .c .Om (.c .Om .n))))))) (fun(j,(l,(w,(H,(K,(L,((M,((N,O),(P,(m,(n,(o,(p,()))))))),((q,(r,(s,(t,(u,(v,(x,(y,())))))))),(z,((A,B),((C,D),(E,((F,G),((I,J),()))))))))))))))=>(j,l,w,H,K,L,(eM.mk M N O P m n o p A B C D E F G I J),(af.mk q r s t u v x y),z)) (fun(c,d,e,f,g,h,a,b,i)=>(c,(d,(e,(f,(g,(h,((a.pr,((a.fk,a.fv),(a.ns,(a.re,(a.ln,(a.nd,(a.er,()))))))),((b.Op,(b.Name,(b.Value_Kind,(b.Value_N,(b.Value_S,(b.Value_I,(b.Value_L,(b.Kids,())))))))),(i,((a.sk,a.sv),((a.lk,a.lv),(a.lo,((a.kk,a.kv),((a.vk,a.vv),())))))))))))))))
def KQ (J:JJ):=mH cc n (fun(b,c,d,e,f,g,h,a,i,j)=>J (.exit 0) (tO 0 0<|tI 1 b<|tB 2 c<|tO 7 1<| .cons 8 (.arr 2 0 d 1)<|tL 27 1 e<|tI 28 f<|tI 29 g<|tB 30 h .nil) [.box [pL 3 a.pr,.p (.map a.fk a.fv),(.map 3),(.map 4),pL 8 a.ns,pI a.re,.arr 5 0 a.ln 2,(.map 6),(.map 7),pI a.nd,pI a.er],i.b,.arr j,(.map a.sk a.sv),(.map a.lk a.lv),.arr a.lo,(.map a.kk a.kv),(.map a.vk a.vv)])
def vM:cQ:=gm 109167 JM (KQ cc n) cK
def Jh {cc call}(hc:bF cc call)(n):bv (vM cc n) call n 1 (109167,[0,1,2,7,8,27,28,29],IB,true):=cE bh hc aH
def Gl (c:eM)(i:Int)(d:Bool):R:=cL (bA c.ns i) fun T=>bf T fun l=>iL (az l.Op 18) (cc 103 [.box 0 0,pI i,.p l.e] c.hp fun r D=>ba r fun J=>aj J<|aK D fun S=>some (pI 0,S.hp)) (itL (mH cc n (fun(a,o,q,a3,a1,a2,a0,m,b,p)=>iL (!az m.er 0) (some (pI 0,m.hp)) (iL (az b.Op 7) (cc 104 [.box 0 0,pI a,.p b.e,pL 1 (List.take q (List.drop 0 p))] m.hp fun s B=>dP s fun U=>bg .i64 U fun h=>aK B fun N=>cc 107 [.box 0 0,pI a,pB (!o)] N.hp fun t C=>ba t fun I=>aj I<|aK C fun e=>iL (bw b.Op 7) (cL (bN (TypeDesc.int .i64) (Da.int .i64 a) e.kk 0) fun W=>fC W (some (pI h,({e with kk:=(e.kk++[Da.int .i64 a]),kv:=(e.kv++[Da.int .i64 h])}:eM).hp)) fun y=>some (pI h,({e with kv:=(List.set e.kv y (Da.int .i64 h))}:eM).hp)) (some (pI h,e.hp))) (iL (bw b.Op 6) (cc 105 [.box 0 0,pI a,.p b.e,pL 1 (List.take q (List.drop 0 p))] m.hp fun u E=>dP u fun V=>bg .i64 V fun j=>aK E fun O=>cc 107 [.box 0 0,pI a,pB (!o)] O.hp fun v F=>ba v fun K=>aj K<|aK F fun f=>iL (bw b.Op 7) (cL (bN (TypeDesc.int .i64) (Da.int .i64 a) f.kk 0) fun X=>fC X (some (pI j,({f with kk:=(f.kk++[Da.int .i64 a]),kv:=(f.kv++[Da.int .i64 j])}:eM).hp)) fun z=>some (pI j,({f with kv:=(List.set f.kv z (Da.int .i64 j))}:eM).hp)) (some (pI j,f.hp))) (cc 106 [.box 0 0,pI a,.p b.e,pL 1 (List.take q (List.drop 0 p))] m.hp fun w G=>ba w fun L=>aj L<|aK G fun P=>cc 107 [.box 0 0,pI a,pB (!o)] P.hp fun x H=>ba x fun M=>aj M<|aK H fun g=>iL (bw b.Op 7) (cL (bN (TypeDesc.int .i64) (Da.int .i64 a) g.kk 0) fun Z=>fC Z (some (pI 0,({g with kk:=(g.kk++[Da.int .i64 a]),kv:=(g.kv++[Da.int .i64 0])}:eM).hp)) fun A=>some (pI 0,({g with kv:=(List.set g.kv A (Da.int .i64 0))}:eM).hp)) (some (pI 0,g.hp))))))) n (i,d,0,l.Kids,↑l.Kids.length,0,c,l,[]))
def Up (n:Nat)(c:eM)(i:Int)(d:Bool):=ij (fun cc=>Gl cc n c i d) 72 [.box 0 0,pI i,pB d] c.hp 1 n bh (fun cc=>vM cc n) (fun hc=>bm (Jh hc n) aH)
def IA:=bU (eJ 103).body 1 0
abbrev hO:=Int×Bool×LD×Int×Int×eM×LD×LD
def mG (n:Nat)(t:hO->R)(Y:hO->R):hO->R:=fun(d,g,c,b,a,l,f,e)=>iL (aP a b) (cL (bA c a) fun y=>bg .i64 y fun h=>iL g (cc 72 [.box 0 0,pI h,pB true] l.hp fun p u=>dP p fun z=>bg .i64 z fun D=>aK u fun i=>iL g (Y (d,true,c,b,aq .i64 (a+1),i,f,e)) (cc 148 [pL 8 i.ns,pI h] [] fun q v=>dP q fun A=>aB A fun m=>aj v<|iL m (Y (d,true,c,b,aq .i64 (a+1),i,f,e)) (Y (d,false,c,b,aq .i64 (a+1),i,f,e)))) (cc 72 [.box 0 0,pI h,pB false] l.hp fun r w=>dP r fun B=>bg .i64 B fun E=>aK w fun j=>iL g (Y (d,true,c,b,aq .i64 (a+1),j,f,e)) (cc 148 [pL 8 j.ns,pI h] [] fun s x=>dP s fun C=>aB C fun o=>aj x<|iL o (Y (d,true,c,b,aq .i64 (a+1),j,f,e)) (Y (d,false,c,b,aq .i64 (a+1),j,f,e))))) (t (d,g,c,b,a,l,f,e))
def JL:Rd dT hO:= .rm (.o 0 0<| .i 1<| .v 6 (.Mp 1)<| .b 7<| .l 16 1<| .i 17<| .i 18<| .h (.c (.Ob (.cl 3<| .c (.P .M)<| .u (.Mp 2)<| .u (.Mp 3)<| .cl 8<| .ci<| .c (.Ar 4 2)<| .u (.Mp 5)<| .u (.Mp 6)<| .ci<| .ci .n)) (.c .Om (.c .Om (.c .Om (.c .Oa<| .c .Om (.c .Om .n))))))) (fun(i,(j,(v,(A,(B,((C,((D,E),(F,(G,(l,(m,(n,()))))))),((o,p),((q,r),((s,t),(u,((w,x),((y,z),()))))))))))))=>(i,j,v,A,B,(eM.mk C D E F G l m n q r s t u w x y z),o,p)) (fun(b,c,d,e,f,a,g,h)=>(b,(c,(d,(e,(f,((a.pr,((a.fk,a.fv),(a.ns,(a.re,(a.ln,(a.nd,(a.er,()))))))),((g,h),((a.sk,a.sv),((a.lk,a.lv),(a.lo,((a.kk,a.kv),((a.vk,a.vv),())))))))))))))
def KP (J:JJ):=mG cc n (fun(b,c,d,e,f,a,g,h)=>J (.exit 0) (tO 0 0<|tI 1 b<| .cons 6 (.map 1)<|tB 7 c<|tL 16 1 d<|tI 17 e<|tI 18 f<|tB 19 false .nil) [.box [pL 3 a.pr,.p (.map a.fk a.fv),(.map 2),(.map 3),pL 8 a.ns,pI a.re,.arr 4 0 a.ln 2,(.map 5),(.map 6),pI a.nd,pI a.er],(.map g h),(.map a.sk a.sv),(.map a.lk a.lv),.arr a.lo,(.map a.kk a.kv),(.map a.vk a.vv)])
def vL:cQ:=gm 6811 JL (KP cc n) cK
def Jg {cc call}(hc:bF cc call)(n):bv (vL cc n) call n 1 (6811,[0,1,6,7,16,17,18],IA,true):=cE aL hc aH
def Gj (c:eM)(i:Int)(x:af):R:=cc 147 [(.map 0)] [(.map c.sk c.sv)] fun g o=>dMp 1 g<|aW [(.map c.sk c.sv),(.map c.sk c.sv)] o<|itL (mG cc n (fun(b,B,E,C,D,a,d,e)=>iL (az b (aq .i64 (↑a.ns.length - 1))) (iL (az a.re 0) (cc 107 [.box 0 0,pI b,pB true] ({a with sk:=d,sv:=e}:eM).hp fun h p=>ba h fun t=>aj t<|aK p fun w=>some (.tup [],w.hp)) (cc 148 [pL 8 a.ns,pI b] [] fun j q=>dP j fun A=>aB A fun f=>aj q<|iL f (cc 107 [.box 0 0,pI b,pB true] ({a with sk:=d,sv:=e}:eM).hp fun l r=>ba l fun u=>aj u<|aK r fun y=>some (.tup [],y.hp)) (cc 107 [.box 0 0,pI b,pB false] ({a with sk:=d,sv:=e}:eM).hp fun m s=>ba m fun v=>aj v<|aK s fun z=>some (.tup [],z.hp)))) (some (.tup [],({a with sk:=d,sv:=e}:eM).hp)))) n (i,false,x.Kids,↑x.Kids.length,0,c,c.sk,c.sv)
def Un (n:Nat)(c:eM)(i:Int)(x:af):=ij (fun cc=>Gj cc n c i x) 103 [.box 0 0,pI i,.p x.e] c.hp 1 n aL (fun cc=>vL cc n) (fun hc=>bm (Jg hc n) aH)
end
end Go.Ab
