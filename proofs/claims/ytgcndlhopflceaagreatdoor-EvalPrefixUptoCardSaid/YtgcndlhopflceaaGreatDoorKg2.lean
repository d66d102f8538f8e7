import Derived.Test.YtgcndlhopflceaaGreatDoorKg1
import Derived.Test.YtgcndlhopflceaaGreatDoorOg2
import Derived.Test.YtgcndlhopflceaaGreatDoorOg3
import Derived.Lib.ItoaLen
set_option linter.all false
namespace Go.Ab
open Go
set_option maxRecDepth 100000
noncomputable section
def B3 (c:Tn)(ex:List Ob)(K:Tn->List Ob->R):AO 0 (c.hpA 0++ex) K=K c ex:=rfl
def OM (c:Tn)(h:c.fb=false)(K:Tn->List Ob->R):Z8 0 (c.hpV 0) K=K c []:=by
 have:Z8 0 (c.hpV 0) K=K {c with fb:=false} []:=rfl;rw[this,<-h]
def m5 (c:Tn)(K:Tn->R):dU (.tup []) (c.hpA 0) K=K c:=rfl
def ϑ (v:Va)(c:Tn)(K:ah->Tn->R):dW (.p v.e) (c.hpA 0) K=K v.r c:=rfl
def RN (l:LD)(n:Nat)(h:n=l.length)(c:Tn)(K:LD->Tn->R):dQ (.arr 1 0 n 5) (c.bx 2:: .arr l::c.rs 2) K=K l c:=by
 subst h;have:dQ (.arr 1 0 l.length 5) (c.bx 2:: .arr l::c.rs 2) K=iL (Nat.beq l.length l.length) (K l c) none:=rfl;rw[this,Nat.beq_refl];rfl
def Wg (kk:Nat)(hi o:List Ob)(c:Tn)(K:Tn->R)(h:o=hi.take kk++(c.hpA kk++hi.drop (kk+7)))(hd:∀K':Tn->List Ob->R,AO kk (o.drop kk) K'=K' c (hi.drop (kk+7))):ύ kk hi o K=K c:=by
 unfold ύ;rw[hd];exact if_pos h
def abx (a:Ob)(v:Va)(c0 c:Tn)(K:ah->Tn->R):qA 1 ([a]++c0.hpA 1) (.p v.e) ([a]++c.hpA 1) K=K v.r c:=by
 have e:qA 1 ([a]++c0.hpA 1) (.p v.e) ([a]++c.hpA 1) K=ύ 1 ([a]++c0.hpA 1) ([a]++c.hpA 1) (K v.r):=rfl;rw[e];exact Wg 1 ([a]++c0.hpA 1) ([a]++c.hpA 1) c (K v.r) rfl fun _=>rfl
def aby (a b:Ob)(v:Va)(c0 c:Tn)(K:ah->Tn->R):qA 2 ([a,b]++c0.hpA 2) (.p v.e) ([a,b]++c.hpA 2) K=K v.r c:=by
 have e:qA 2 ([a,b]++c0.hpA 2) (.p v.e) ([a,b]++c.hpA 2) K=ύ 2 ([a,b]++c0.hpA 2) ([a,b]++c.hpA 2) (K v.r):=rfl;rw[e];exact Wg 2 ([a,b]++c0.hpA 2) ([a,b]++c.hpA 2) c (K v.r) rfl fun _=>rfl
def abz (a b d:Ob)(v:Va)(c0 c:Tn)(K:ah->Tn->R):qA 3 ([a,b,d]++c0.hpA 3) (.p v.e) ([a,b,d]++c.hpA 3) K=K v.r c:=by
 have e:qA 3 ([a,b,d]++c0.hpA 3) (.p v.e) ([a,b,d]++c.hpA 3) K=ύ 3 ([a,b,d]++c0.hpA 3) ([a,b,d]++c.hpA 3) (K v.r):=rfl;rw[e];exact Wg 3 ([a,b,d]++c0.hpA 3) ([a,b,d]++c.hpA 3) c (K v.r) rfl fun _=>rfl
def Wh (a b w:Ob)(M:Nat)(v:Va)(c0 c:Tn)(K:ah->Tn->R):dVn ([a,b,.box [.fn M [.box 10 0]]]++(c0.hpA 3++[w])) (.p v.e) ([a,b,.box [.fn M [.box 4 0]],c.bx 5,w]++c.rs 5) K=K v.r c:=by
 have:dVn ([a,b,.box [.fn M [.box 10 0]]]++(c0.hpA 3++[w])) (.p v.e) ([a,b,.box [.fn M [.box 4 0]],c.bx 5,w]++c.rs 5) K= @ite _ (([a,b,.box [.fn M [.box 4 0]],c.bx 5,w]++c.rs 5)=cVn ([a,b,.box [.fn M [.box 10 0]]]++(c0.hpA 3++[w])) c) (Classical.propDecidable _) (K v.r c) none:=rfl;rw[this];exact if_pos rfl
inductive Cl where
 |c (n:No)
 |s
 |v (i:Int)
 |o (M:Nat) (x w:No)
 |l (x:No) (d:Int)
def Cl.d:Cl->D
 | .c n=> .p (.fn 108 [.ptr n.e])
 | .s=> .fn 109 [.box 7 0]
 | .v _=> .fn 110 [.box 7 0,.box 8 0]
 | .o _ _ _=> .fn 157 [.box 7 0,.box 8 0,.box 9 0]
 | .l _ _=> .fn 162 [.box 7 0,.box 8 0,.box 9 0]
def Cl.h:Cl->List Ob
 | .c _=>[]
 | .s=>[.box [.box 0 0]]
 | .v i=>[.box [.box 0 0],.box [pI i]]
 | .o M x w=>[.box [.box 0 0],x.r.b,.box [.fn M [.box 10 0]],w.r.b]
 | .l x d=>[.box [.box 0 0],x.r.b,.box [pI d]]
def aav (n:No)(K:af->R):Tr (Cl.c n).d (Cl.c n).h K=K n.r:=rfl
def aaw (K:R):Ts Cl.s.d Cl.s.h K=K:=iQ _ _
def aax (i:Int)(K:Int->R):Tt (Cl.v i).d (Cl.v i).h K=K i:=iQ _ _
def Wi (x:No)(d:Int)(K:af->Int->R):LU (Cl.l x d).d (Cl.l x d).h K=K x.r d:=iQ _ _
def Wl (M:Nat)(x w:No)(K:af->af->R):q7 M (Cl.o M x w).d (Cl.o M x w).h K=K x.r w.r:=by
 refine(iQ _ _).trans ?_;exact iQ (.fn M [.box 10 0]) _
def Wm (M:Nat)(x w:No)(K:af->af->R):F7 M (.fn 157 [.box 8 0,.box 9 0,.box 10 0]) [w.r.b,.box [.box 0 0],x.r.b,.box [.fn M [.box 7 0]]] K=K x.r w.r:=by
 refine(iQ _ _).trans ?_;exact iQ (.fn M [.box 7 0]) _
def VD (cc:ab)(u14:Tn)(i10:Int)(K:ah->Tn->R):R:=
 cc 77 [(.box 0 0),(pI i10)] (u14.hpA 0) fun d16 o17=>
 AO 0 o17 fun u18 o19=>
 iL (Ŀ d16)
  (Tr d16 o19 fun u20=>
  cc 108 [(.p (.ptr u20.e))] [] fun d21 o22=>
  dP d21 fun x23=>
  ag x23 fun u24=>
  aj o22<|
  K u24 u18)
  (iL (wC 109 d16)
  (Ts d16 o19<|
  cc 109 [(.box 0 0)] ([(.box [(.box 1 0)])]++(u18.hpA 1)) fun d25 o26=>
  qA 1 ([(.box [(.box 1 0)])]++(u18.hpA 1)) d25 o26 fun u27 u28=>
  K u27 u28)
  (iL (wC 110 d16)
   (Tt d16 o19 fun i29=>
   cc 110 [(.box 0 0),(.box 1 0)] ([(.box [(.box 2 0)]),(.box [(pI i29)])]++(u18.hpA 2)) fun d30 o31=>
   qA 2 ([(.box [(.box 2 0)]),(.box [(pI i29)])]++(u18.hpA 2)) d30 o31 fun u32 u33=>
   K u32 u33)
   (iL (wC 162 d16)
   (LU d16 o19 fun u34 i35=>
   cc 162 [(.box 0 0),(.box 1 0),(.box 2 0)] ([(.box [(.box 3 0)]),u34.b,(.box [(pI i35)])]++(u18.hpA 3)) fun d36 o37=>
   qA 3 ([(.box [(.box 3 0)]),u34.b,(.box [(pI i35)])]++(u18.hpA 3)) d36 o37 fun u38 u39=>
   K u38 u39)
   (iL (jB 112 o19)
    (q7 112 d16 o19 fun u40 u41=>
    cc 157 [(.box 0 0),(.box 1 0),(.box 2 0)] ([(.box [(.box 3 0)]),u40.b,(.box [(.fn 112 [(.box 10 0)])])]++(u18.hpA 3++[u41.b])) fun d42 o43=>
    dVn ([(.box [(.box 3 0)]),u40.b,(.box [(.fn 112 [(.box 10 0)])])]++(u18.hpA 3++[u41.b])) d42 o43 fun u44 u45=>
    K u44 u45)
    (iL (jB 115 o19)
    (q7 115 d16 o19 fun u46 u47=>
    cc 157 [(.box 0 0),(.box 1 0),(.box 2 0)] ([(.box [(.box 3 0)]),u46.b,(.box [(.fn 115 [(.box 10 0)])])]++(u18.hpA 3++[u47.b])) fun d48 o49=>
    dVn ([(.box [(.box 3 0)]),u46.b,(.box [(.fn 115 [(.box 10 0)])])]++(u18.hpA 3++[u47.b])) d48 o49 fun u50 u51=>
    K u50 u51)
    (q7 117 d16 o19 fun u52 u53=>
    cc 157 [(.box 0 0),(.box 1 0),(.box 2 0)] ([(.box [(.box 3 0)]),u52.b,(.box [(.fn 117 [(.box 10 0)])])]++(u18.hpA 3++[u53.b])) fun d54 o55=>
    dVn ([(.box [(.box 3 0)]),u52.b,(.box [(.fn 117 [(.box 10 0)])])]++(u18.hpA 3++[u53.b])) d54 o55 fun u56 u57=>
    K u56 u57))))))
def ClA (m:Nat)(c:Tn)(v:Va)(c':Tn):Cl->Prop
 | .c n=>v=n.v/\c'=c
 | .s=>Ω m 109 [.box 0 0] ([.box [.box 1 0]]++c.hpA 1)=some (.p v.e,[.box [.box 1 0]]++c'.hpA 1)
 | .v i=>Ω m 110 [.box 0 0,.box 1 0] ([.box [.box 2 0],.box [pI i]]++c.hpA 2)=some (.p v.e,[.box [.box 2 0],.box [pI i]]++c'.hpA 2)
 | .o M x w=>(M=112\/M=115\/M=117)/\Ω m 157 [.box 0 0,.box 1 0,.box 2 0] ([.box [.box 3 0],x.r.b,.box [.fn M [.box 10 0]]]++(c.hpA 3++[w.r.b]))=some (.p v.e,[.box [.box 3 0],x.r.b,.box [.fn M [.box 4 0]],c'.bx 5,w.r.b]++c'.rs 5)
 | .l x d=>Ω m 162 [.box 0 0,.box 1 0,.box 2 0] ([.box [.box 3 0],x.r.b,.box [pI d]]++c.hpA 3)=some (.p v.e,[.box [.box 3 0],x.r.b,.box [pI d]]++c'.hpA 3)
variable {m:Nat}
def aak {c c':Tn}{i:Int}{v:Va}(q:Cl)(h:Ω m 77 [.box 0 0,pI i] (c.hpA 0)=some (q.d,c.hpA 0++q.h))(hq:ClA m c v c' q)(hm:1<=m)(K:ah->Tn->R):VD (ct lay0.tab m) c i K=K v.r c':=by
 unfold VD;rw[aa h,B3];cases q with
 |c n=>
  obtain⟨rfl,rfl⟩:=hq;obtain⟨m,rfl⟩:∃k,m=k+1:=⟨m - 1,by omega⟩
  have e1:Ω (m+1) 108 [.p (.ptr n.e)] []=some (.p n.v.e,[]):=UL m n.r _ rfl;show Tr (Cl.c n).d (Cl.c n).h _=_;rw[aav,show n.r.e=n.e from rfl,aa e1];rfl
 |s=>
  show Ts Cl.s.d Cl.s.h _=_;rw[aaw,aa hq,abx]
 |v j=>
  show Tt (Cl.v j).d (Cl.v j).h _=_;rw[aax,aa hq,aby]
 |l x d=>
  show LU (Cl.l x d).d (Cl.l x d).h _=_;rw[Wi,aa hq,abz]
 |o M x w=>
  obtain⟨hM,hq⟩:=hq;rcases hM with rfl|rfl|rfl
  ·show q7 112 (Cl.o 112 x w).d (Cl.o 112 x w).h _=_;rw[Wl,aa hq,Wh]
  ·show q7 115 (Cl.o 115 x w).d (Cl.o 115 x w).h _=_;rw[Wl,aa hq,Wh]
  ·show q7 117 (Cl.o 117 x w).d (Cl.o 117 x w).h _=_;rw[Wl,aa hq,Wh]
structure fW where
 f:List Va
 r:Va
def fW.rr (x:fW):dy:=⟨x.f.map Va.e,x.r.k,x.r.n,x.r.s,x.r.I.map iE,x.r.L.map .str⟩
def fW.e (x:fW):Da:=x.rr.e
structure qr where
 k:Int
 v:Va
 (tt tk me:LN)
 ar:List Va
 er:Int
 fs:List Va
 ef:List Ef
def qr.e (x:qr):Da:= .agg [.int .i64 x.k,.int .i64 x.v.k,.int .i64 x.v.n,.str x.v.s,.slice 1 (x.v.I.map iE),.slice 1 (x.v.L.map .str),.str x.tt,.str x.tk,.str x.me,.slice 5 (x.ar.map Va.e),.int .i64 x.er,.int .i64 0,.int .i64 0,.int .i64 0,.slice 5 [],.slice 5 (x.fs.map Va.e),.slice 4 (x.ef.map Ef.e),.int .i64 0]
structure dR where
 p:List Ac
 bs:List (List CS)
 a:Ac
 (ti mi:Int)
 ns:List No
 ky:LN
 ip:List fW
 lm:Int
structure TS where
 nx:Nat
 (fs ls:List Va)
 es:List Ef
 rd:Int
 sg:List qr
 (sd fb eb:Bool)
def TS.tn (x:dR)(s:TS):Tn where
 tn:=x.a.name
 tf:=x.a.fields.map Fe.e
 tm:=x.a.methods.map Me.e
 aT:=x.ti
 aM:=x.mi
 aN:=0
 no:=x.ns.map No.e
 ky:=x.ky
 ip:=x.ip.map fW.e
 nx:=s.nx
 fn:=s.fs.length
 ln:=s.ls.length
 en:=s.es.length
 lm:=x.lm
 rd:=s.rd
 sn:=s.sg.length
 sd:=s.sd
 ty:=x.p.map Ac.e
 bn:=x.bs.length
 bs:=x.bs.map fun l=> .slice 3 (l.map cJ)
 fb:=s.fb
 fs:=s.fs.map Va.e
 ls:=s.ls.map Va.e
 eb:=s.eb
 es:=s.es.map Ef.e
 sg:=s.sg.map qr.e
open Classical in
def gd {α:Type}(p:Prop)(o:Option α):Option α:=if p then o else none
variable {α:Type}
def dN {p:Prop}{o:Option α}{r:α}(h:gd p o=some r):p/\o=some r:=by
 unfold gd at h;split at h
 ·exact⟨by assumption,h⟩
 ·cases h
def qJ {p:Prop}(h:p)(o:Option α):gd p o=o:=if_pos h
def pU (x:dR)(s:TS)(e:Int):Option TS:=gd (1<=s.nx/\s.nx<cr/\s.sg.length<1000)<|(x.ip[s.nx - 1]?).map fun p=>{s with sd:=true,sg:=s.sg++[⟨3,v0,[],[],[],[],e,p.f,[]⟩]}
def H3 (x:dR)(s:TS):Option TS:=gd (s.nx<cr)<|(x.ip[s.nx]?).map fun p=>{s with nx:=s.nx+1,fs:=p.f,es:=[],rd:=x.lm,fb:=false,eb:=false}
def RQ (s:TS)(v:Va):Option TS:=gd (s.fb=false/\s.eb=false/\s.sg.length<1000/\Wk v)<|some {s with sd:=true,fb:=true,eb:=true,sg:=s.sg++[⟨1,v,[],[],[],[],0,s.fs,s.es⟩]}
def RP (x:dR)(s:TS)(v:Va)(e:Int):Option (Va×TS):=bif az e 0 then some (v,s)else(pU x s e).map fun s=>(v0,s)
def rP (x:dR)(i:Int):Option Vr:=Tf (cU x.bs x.ti x.mi) i
def À (x:dR)(s:TS)(i:Int):Option Va:=gd (s.fb=false)<|match rP x i with
 |none=>none
 |some v=>bif v.field then dL s.fs v.slot else dL s.ls v.slot
def RR (x:dR)(s:TS)(i:Int)(w:Va):Option TS:=gd (s.fb=false)<|match rP x i with
 |none=>none
 |some v=>bif v.field then(dL s.fs v.slot).map fun _=>{s with fs:=s.fs.set v.slot.toNat w}else(dL s.ls v.slot).map fun _=>{s with ls:=s.ls.set v.slot.toNat w}
def lS (ev:TS->Int->Option (Va×TS)):TS->LI->List Va->Option (List Va×TS)
 |s,[],acc=>some (acc,s)
 |s,k::r,acc=>match ev s k with
  |none=>none
  |some (v,s')=>bif s'.sd then some ([],s')else lS ev s' r (acc++[v])
def eOp (M:Nat)(o:LN)(l:List Va):Option (Va×Int):=
 bif Nat.beq M 112 then(match l with|a::_=>some (S_ o a)|_=>none)else
 bif Nat.beq M 115 then(match l with|a::b::_=>some (Ż o a b)|_=>none)else Z_ o l
def Tv (x:dR)(ev:TS->Int->Option (Va×TS))(s:TS):Cl->Option (Va×TS)
 | .c n=>some (n.v,s)
 | .s=>some (⟨3,0,x.ky,[],[]⟩,s)
 | .v j=>(À x s j).map fun v=>(v,s)
 | .o M n w=>match lS ev s n.kids []with
  |none=>none
  |some (l,s')=>bif s'.sd then some (v0,s')else gd (l.length<=100)<|match eOp M w.name l with
   |none=>none
   |some (v,e)=>RP x s' v e
 | .l n d=>match n.kids with
  |a::r=>(match ev s a with
   |none=>none
   |some (v,s')=>bif s'.sd||az v.n d then some (v,s')else match r with
    |b::_=>ev s' b
    |[]=>none)
  |[]=>none
def At (n:No)(i:Int):Cl:=
 bif az n.op 1 then .c n else bif az n.op 3 then .s else bif az n.op 2 then .v i else bif az n.op 4 then .o 112 n n else
 bif az n.op 5 then(bif be n.name [38,38]then .l n 0 else bif be n.name [124,124]then .l n 1 else .o 115 n n)else .o 117 n n
def tV (x:dR):Nat->TS->Int->Option (Va×TS)
 |0,_,_=>none
 |f+1,s,i=>match dL x.ns i with
  |none=>none
  |some n=>match Tv x (tV x f) s (At n i)with
   |none=>none
   |some (v,s')=>gd (Wk v) (some (v,s'))
def eF (x:dR):Nat:=x.ns.length+1
def rO (x:dR)(i:Int):Int:=(ï (cU x.bs x.ti x.mi) i).getD 0
def yN (x:dR)(s:TS)(i:Int):Option (Va×TS):=match dL x.ns i with
 |none=>none
 |some n=>match lS (tV x (eF x)) s n.kids []with
  |none=>none
  |some (l,s1)=>bif s1.sd then some (v0,s1)else match l with
   |[]=>none
   |a::r=>bif aP 32 (a.s.length:Int)then(pU x s1 5).map fun s=>(v0,s)else
    gd (s1.fb=false/\s1.eb=false/\s1.sg.length<1000/\r.length<1000)<|
    bif az (s1.nx:Int) (x.ip.length:Int)then some (v0,{s1 with fb:=true,eb:=true,sd:=true,sg:=s1.sg++[⟨2,v0,n.name,a.s,n.v.s,r,0,s1.fs,s1.es⟩]})else
    match x.ip[s1.nx]? with
    |none=>none
    |some p=>bif fR [p.r] [rO x i]then(H3 x {s1 with fb:=true,eb:=true,sg:=s1.sg++[⟨2,v0,n.name,a.s,n.v.s,r,0,s1.fs,s1.es⟩]}).map fun s=>(p.r,s)else
     some (v0,{s1 with fb:=true,eb:=true,sd:=true,sg:=s1.sg++[⟨2,v0,n.name,a.s,n.v.s,r,0,s1.fs,s1.es⟩]})
def H5 (x:dR)(s:TS)(i:Int):Option (Va×TS):=match dL x.ns i with
 |none=>none
 |some n=>bif az n.op 7 then yN x s i else tV x (eF x) s i
def LX (x:dR)(s:TS)(n:No)(q:Int):Option TS:=match lS (tV x (eF x)) s n.kids []with
 |none=>none
 |some (l,s1)=>bif s1.sd then some s1 else gd (s1.es.length<1000)<|match Rj q l s1.es.length with
  |none=>none
  |some (e,er)=>bif az er 0 then gd (s1.eb=false) (some {s1 with es:=s1.es++[e]})else pU x s1 er
def eBr (x:dR)(st:TS->Int->Option TS)(s:TS)(n:No):Option TS:=match n.kids with
 |a::r=>(match tV x (eF x) s a with
  |none=>none
  |some (v,s')=>bif s'.sd then some s' else bif az v.n 1 then(match r with|b::_=>st s' b|[]=>none)else match r with
   |[_,c]=>st s' c
   |_=>some s')
 |[]=>none
def pT (x:dR)(st:TS->Int->Option TS)(n:No):Nat->TS->Option TS
 |0,_=>none
 |q+1,s=>bif s.sd then some s else bif az s.rd 0 then pU x s 17 else match n.kids with
  |a::r=>gd (0<=s.rd/\s.rd<1000000)<|(match tV x (eF x) {s with rd:=s.rd - 1} a with
   |none=>none
   |some (v,s')=>bif s'.sd||az v.n 0 then some s' else match r with
    |b::_=>(match st s' b with
     |none=>none
     |some s''=>pT x st n q s'')
    |[]=>none)
  |[]=>none
def AP (st:TS->Int->Option TS):LI->TS->Option TS
 |[],s=>some s
 |k::r,s=>match st s k with
  |none=>none
  |some s'=>AP st r s'
def eQ:Nat:=6000
def Ks (x:dR):Nat->TS->Int->Option TS
 |0,_,_=>none
 |f+1,s,i=>bif s.sd then some s else match dL x.ns i with
  |none=>none
  |some n=>
   bif az n.op 8||az n.op 9 then(match n.kids with
    |a::_=>(match H5 x s a with
     |none=>none
     |some (v,s')=>bif s'.sd then some s' else RR x s' i v)
    |[]=>none)else
   bif az n.op 10 then(match n.kids with|a::_=>(yN x s a).map (·.2)|[]=>none)else
   bif az n.op 11 then eBr x (Ks x f) s n else
   bif az n.op 12 then pT x (Ks x f) n eQ s else
   bif az n.op 13 then(match lS (tV x (eF x)) s n.kids []with
    |none=>none
    |some (l,s1)=>bif s1.sd then some s1 else gd (l.length<1000) (RQ s1 (l.headD v0)))else
   bif az n.op 14 then pU x s 26 else
   bif az n.op 15 then LX x s n 1 else
   bif az n.op 16 then LX x s n 2 else
   bif az n.op 17 then LX x s n 3 else
   bif az n.op 18 then gd (n.kids.length<1501) (AP (Ks x f) n.kids s)else some s
structure jg (x:dR):Prop where
 fl:∀p∈x.ip,p.f.length<1501
 fw:∀p∈x.ip,∀v∈p.f,Wk v
 wr:∀p∈x.ip,kg p.r=true->Wk p.r
 il:x.ip.length<1501
 nl:x.ns.length<1501
 kl:∀n∈x.ns,n.kids.length<1501
def Wk.len {v:Va}(h:Wk v):v.I.length<1501/\v.L.length<1501:=⟨by have:=h.I;omega,by have:=h.L;omega⟩
def HW (p:fW)(K:dy->R):bQ p.e K=K p.rr:=rfl
variable {x:dR} {s':TS}
def Ge (hx:jg x){s:TS}(h:H3 x s=some s')(hm:1504<=m):Ω m 19 [.box 0 0] ((s.tn x).hpA 0)=some (.tup [],(s'.tn x).hpA 0):=by
 replace hm:=bl hm;obtain⟨m,rfl,hm⟩:=hm;obtain⟨h1,h2⟩:=dN h;obtain⟨p,hp,rfl⟩:=mβ.1 h2;have hmem:=lξ hp;apply UK m (s.tn x);unfold GG;show cL (bA (x.ip.map fW.e) (s.nx:Int)) _=_;rw[aO,cd,hp,Option.map_some,bo,HW];show ct lay0.tab m 18 [pL 5 (p.f.map Va.e)] [] _=_;rw[aa (jF (m:=m) p.f (hx.fl p hmem) (fun v hv=>(hx.fw p hmem v hv).len) (by omega)),iB];simp only[Nat.beq_refl,aQ,bJ,iq,aC];show some (_,Tn.hpA 0 {s.tn x with nx:=aq .i64 ((s.nx:Int)+1),fn:=_,en:=0,rd:=_,fb:=false,fs:=_,eb:=false,es:=[]})=_;rw[wS h1];rfl
def Vw {n:Nat}(h:n<1000)(l:LD)(hl:l.length=1):ce (n+l.length) 272=true:=by
 unfold ce;rw[lγ,Nat.ble_eq,Nat.ble_eq,hl];omega
def q8 (hx:jg x){s:TS}{e:Int}(h:pU x s e=some s')(hm:1504<=m):Ω m 53 [.box 0 0,pI e] ((s.tn x).hpA 0)=some (.tup [],(s'.tn x).hpA 0):=by
 replace hm:=bl hm;obtain⟨m,rfl,hm⟩:=hm;obtain⟨⟨h1,h0,h3⟩,h2⟩:=dN h;obtain⟨p,hp,rfl⟩:=mβ.1 h2;have hmem:=lξ hp;apply Zh m (s.tn x) e;unfold N3;have hw:aq .i64 ((s.tn x).nx - 1)=((s.nx - 1:Nat):Int):=by
  unfold cr at h0;show aq .i64 ((s.nx:Int) - 1)=_;rw[gU (by omega) (by omega)];omega
 rw[hw];show cL (bA (x.ip.map fW.e) ((s.nx - 1:Nat):Int)) _=_;rw[aO,cd,hp,Option.map_some,bo,HW];show ct lay0.tab m 18 [pL 5 (p.f.map Va.e)] [] _=_;rw[aa (jF (m:=m) p.f (hx.fl p hmem) (fun v hv=>(hx.fw p hmem v hv).len) (by omega)),iB];simp only[Nat.beq_refl,aQ,bJ,iq,aC];have hl:(s.tn x).sg.length=s.sg.length:=lβ _;rw[hl,show(s.tn x).sn=s.sg.length from rfl,Nat.beq_refl,Vw h3 _ rfl,aQ,aQ];have hf:List.take p.f.length (List.drop 0 (p.f.map Va.e))=p.f.map Va.e:=by rw[List.drop_zero,lψ (by rw[lβ];omega)]
 rw[hf];unfold TS.tn;simp only[List.map_append,List.map_cons,List.map_nil,mγ,List.length_cons,List.length_nil,lβ];rfl
def Bf {s:TS}{v:Va}(h:RQ s v=some s')(hm:1504<=m):Ω m 21 [.box 0 0,.p v.e] ((s.tn x).hpA 0)=some (.tup [],(s'.tn x).hpA 0):=by
 replace hm:=bl hm;obtain⟨m,rfl,hm⟩:=hm;obtain⟨⟨h1,h2,h3,h4⟩,h5⟩:=dN h;rw[<-Option.some.inj h5];apply Q4 m (s.tn x) v.r;unfold BF;rw[show(s.tn x).fb=false from h1,show(s.tn x).eb=false from h2,aR,aR];show ct lay0.tab m 18 [pL 5 ([v].map Va.e)] [] _=_;rw[aa (jF (m:=m) [v] (show 1<1501 by decide) (fun w hw=>by rw[List.mem_singleton.1 hw];exact h4.len) (by omega)),iB];simp only[Nat.beq_refl,aQ,bJ,iq,aC];rw[show aP 0 (([v].length:Nat):Int)=true from rfl,aQ,show(List.map Va.e [v])[0]?=some (Da.agg v.c)from rfl];have hl:(s.tn x).sg.length=s.sg.length:=lβ _;rw[bo,pR,hl,show(s.tn x).sn=s.sg.length from rfl,Nat.beq_refl,Vw h3 _ rfl,aQ,aQ];have hf:List.take (s.tn x).fn (List.drop 0 (s.tn x).fs)=s.fs.map Va.e:=by
  show List.take s.fs.length (List.drop 0 (s.fs.map Va.e))=_;rw[List.drop_zero,lψ (by rw[lβ];omega)]
 have he:List.take (s.tn x).en (List.drop 0 (s.tn x).es)=s.es.map Ef.e:=by
  show List.take s.es.length (List.drop 0 (s.es.map Ef.e))=_;rw[List.drop_zero,lψ (by rw[lβ];omega)]
 rw[hf,he];unfold TS.tn;simp only[List.map_append,List.map_cons,List.map_nil,mγ,List.length_cons,List.length_nil,lβ];rfl
def qg (hx:jg x){s:TS}{v w:Va}{e:Int}(h:RP x s v e=some (w,s'))(hm:1505<=m):Ω m 158 [.box 0 0,.p v.e,pI e] ((s.tn x).hpA 0)=some (.p w.e,(s'.tn x).hpA 0):=by
 replace hm:=bl hm;obtain⟨m,rfl,hm⟩:=hm;apply Lp m (s.tn x) v.r e;unfold xS;unfold RP at h;cases he:az e 0 with
 |true=>
  rw[he,cond_true]at h;cases h;rfl
 |false=>
  rw[he,cond_false]at h;obtain⟨s1,h1,h2⟩:=mβ.1 h;cases h2;rw[Bool.not_false,aQ,aa (q8 hx h1 (by omega)),m5];rfl
def kj {s:TS}{i:Int}{v:Vr}(h:rP x i=some v)(hk:0<=v.slot/\v.slot<bif v.field then(s.fs.length:Int)else s.ls.length)(hm:3<=m):Ω m 48 [.box 0 0,pI i] ((s.tn x).hpV 0)=some (.el (bif v.field then 3 else 4) (0+v.slot.toNat) 0,(s.tn x).hpV 0):=by
 replace hm:=bl hm;obtain⟨m,rfl,hm⟩:=hm;obtain⟨m,rfl⟩:∃k,m=k+2:=⟨m - 2,by omega⟩
 apply Hu (m+2) (s.tn x) i;unfold vd;have e:=YQ (n:=m) x.p x.bs ⟨x.ti,x.mi,i⟩;simp only at e;rw[show Tf (cU x.bs x.ti x.mi) i=some v from h]at e;show ct lay0.tab (m+2) 78 [.box 0 0,.p (bb.e ⟨x.ti,x.mi,i⟩)] (cS x.p x.bs).hp _=_;rw[aa e];unfold vaD;simp only[bt,bJ,bk,cb,aF,aC,Option.map_some,Option.getD_some,Option.isSome_some];show aW (cS x.p x.bs).hp (cS x.p x.bs).hp _=_;rw[aX];obtain⟨k,sl,f⟩:=v;obtain⟨h1,h2⟩:=hk;have g1:bw 0 sl=true:=by rw[bW];exact mη h1
 cases f with
 |true=>
  have g2:aP sl (s.tn x).fn=true:=by rw[dJ];exact mη h2
  simp only[g1,g2,aQ,cond_true]
 |false=>
  have g2:aP sl (s.tn x).ln=true:=by rw[dJ];exact mη h2
  simp only[g1,g2,aQ,aR,cond_false]
def Qo {s:TS}{i:Int}(hm:3<=m):Ω m 79 [.box 0 0,pI i] ((s.tn x).hpA 0)=some (pI (rO x i),(s.tn x).hpA 0):=by
 replace hm:=bl hm;obtain⟨m,rfl,hm⟩:=hm;obtain⟨m,rfl⟩:∃k,m=k+2:=⟨m - 2,by omega⟩
 apply Q7 (m+2) (s.tn x) i;unfold BI;have e:=YP (n:=m) x.p x.bs ⟨x.ti,x.mi,i⟩;simp only at e;show ct lay0.tab (m+2) 119 [.box 0 0,.p (bb.e ⟨x.ti,x.mi,i⟩)] (cS x.p x.bs).hp _=_;rw[aa e];unfold kiD rO;simp only[bt,bJ,bk,cb,aF,aC];show aW (cS x.p x.bs).hp (cS x.p x.bs).hp _=_;rw[aX]
def Ax {s:TS}{i:Int}{n:No}(hn:dL x.ns i=some n)(hm:2<=m):Ω m 77 [.box 0 0,pI i] ((s.tn x).hpA 0)=some ((At n i).d,(s.tn x).hpA 0++(At n i).h):=by
 replace hm:=bl hm;obtain⟨m,rfl,hm⟩:=hm;replace hm:=bl hm;obtain⟨m,rfl,-⟩:=hm;apply AG (m+1) (s.tn x) i;unfold pP At;have op (M:Nat) (o4:List Ob) (d3:D) (h:d3= .fn 157 [.box 8 0,.box 9 0,.box 10 0]) (g:o4=(s.tn x).hpA 0++[n.r.b,.box [.box 0 0],n.r.b,.box [.fn M [.box 7 0]]]):True:=trivial;show cL (bA (x.ns.map No.e) i) _=_;rw[aO,hn,Option.map_some,bo,HZ];show iL (az n.op 1) _ (iL (az n.op 3) _ (iL (az n.op 2) _ (iL (az n.op 4) _ (iL (az n.op 5) (iL (be n.name [38,38]) _ (iL (be n.name [124,124]) _ _)) _))))=_;have o4:Ω (m+1) 111 [.box 0 0,.p n.r.e,.fn 112 [.box 7 0]] ((s.tn x).hpA 0++[n.r.b])=some (.fn 157 [.box 8 0,.box 9 0,.box 10 0],(s.tn x).hpA 0++[n.r.b,.box [.box 0 0],n.r.b,.box [.fn 112 [.box 7 0]]]):=AH m (s.tn x) n.r n.r _ rfl;have o5:Ω (m+1) 111 [.box 0 0,.p n.r.e,.fn 115 [.box 7 0]] ((s.tn x).hpA 0++[n.r.b])=some (.fn 157 [.box 8 0,.box 9 0,.box 10 0],(s.tn x).hpA 0++[n.r.b,.box [.box 0 0],n.r.b,.box [.fn 115 [.box 7 0]]]):=AI m (s.tn x) n.r n.r _ rfl;have o6:Ω (m+1) 111 [.box 0 0,.p n.r.e,.fn 117 [.box 7 0]] ((s.tn x).hpA 0++[n.r.b])=some (.fn 157 [.box 8 0,.box 9 0,.box 10 0],(s.tn x).hpA 0++[n.r.b,.box [.box 0 0],n.r.b,.box [.fn 117 [.box 7 0]]]):=AJ m (s.tn x) n.r n.r _ rfl;cases h1:az n.op 1 with
 |true=>rw[aQ,cond_true];exact congrArg some (congrArg _ (mξ _).symm)
 |false=>
 rw[aR,cond_false];cases h3:az n.op 3 with
 |true=>rfl
 |false=>
 rw[aR,cond_false];cases h2:az n.op 2 with
 |true=>rfl
 |false=>
 rw[aR,cond_false];cases h4:az n.op 4 with
 |true=>
  rw[aQ,cond_true,aa o4,B3];show F7 112 _ _ _=_;rw[Wm];rfl
 |false=>
 rw[aR,cond_false];cases h5:az n.op 5 with
 |false=>
  rw[aR,cond_false,aa o6,B3];show F7 117 _ _ _=_;rw[Wm];rfl
 |true=>
 rw[aQ,cond_true];have lg:∀d:Int,(bif be n.name [124,124]then(1:Int)else 0)=d->Ω (m+1) 114 [.box 0 0,.p n.r.e] ((s.tn x).hpA 0)=some ((Cl.l n d).d,(s.tn x).hpA 0++(Cl.l n d).h):=by
  intro d hd;apply UR m (s.tn x) n.r;unfold GL;show iL (be n.name [124,124]) _ _=_;subst hd;cases be n.name [124,124]<;>rfl
 cases ha:be n.name [38,38]with
 |true=>
  have hne:be n.name [124,124]=false:=by rw[la]at ha ⊢;rw[lε]at ha;rw[ha];rfl
  rw[aQ,cond_true,aa (lg 0 (by rw[hne];rfl)),B3,Wi];rfl
 |false=>
 rw[aR,cond_false];cases hb:be n.name [124,124]with
 |true=>
  rw[aQ,cond_true,aa (lg 1 (by rw[hb];rfl)),B3,Wi];rfl
 |false=>
  rw[aR,cond_false,aa o5,B3];show F7 115 _ _ _=_;rw[Wm];rfl
def T4 (x:dR)(m:Nat)(ev:TS->Int->Option (Va×TS)):Prop:=∀s i v s',ev s i=some (v,s')->∀K,VD (ct lay0.tab m) (s.tn x) i K=K v.r (s'.tn x)
def IW {m:Nat}{x:dR}{ev:TS->Int->Option (Va×TS)}(hev:T4 x m ev)(l:LI)(hl:l.length<1501)(k0:Nat×Tn×LD×ah×LD->R)(k1:Nat×LD×Int×Int×Bool×Tn×LD->R)(Z:Nat->Tn->LD->R)
  (h0:∀t a v,k0 (0,t,a,v,[])=Z 0 t []) (h1:∀k a b c d t l,k1 (k,a,b,c,d,t,l)=Z k t l):∀(e q i:Nat) (s:TS) (acc:List Va),i+e=l.length->e<q->acc.length<=i->∀r s',lS ev s (l.drop i) acc=some (r,s')->
  itL (oZ (ct lay0.tab m) m k0 k1) q (acc.length,l.map iE,(l.length:Int),(i:Int),s.tn x,acc.map Va.e)=Z r.length (s'.tn x) (r.map Va.e)
 |0,q+1,i,s,acc,hi,_,ha,r,s',h=>by
  obtain rfl:i=l.length:=by omega
  rw[List.drop_length]at h;simp only[lS,lα,lζ]at h;obtain⟨rfl,rfl⟩:=h;rw[nt];simp only[oZ,cH,aR];exact h1 _ _ _ _ _ _ _
 |e+1,q+1,i,s,acc,hi,hq,ha,r,s',h=>by
  have hil:i<l.length:=by omega
  rw[lχ hil]at h;simp only[lS]at h;rw[nt];simp only[oZ,ej (show((i:Int)<(l.length:Int)) by omega),aQ,aO,bi,aU hil,bo,dI];cases he:ev s l[i]with
  |none=>rw[he]at h;cases h
  |some z=>
   obtain⟨v,s1⟩:=z;rw[he]at h;simp only at h;have hb:=hev _ _ _ _ he;refine(hb _).trans ?_;show iL s1.sd _ (iL (Nat.beq acc.length (acc.map Va.e).length) (iL (ce ((acc.map Va.e).length+1) 80) _ _) _)=_;cases hsd:s1.sd with
   |true=>
    rw[hsd,cond_true]at h;simp only[lα,lζ]at h;obtain⟨rfl,rfl⟩:=h;exact h0 _ _ _
   |false=>
    rw[hsd,cond_false]at h;have hbg:ce (acc.length+1) 80=true:=by unfold ce;rw[lγ,Nat.ble_eq,Nat.ble_eq];omega
    rw[aR,lβ,Nat.beq_refl,hbg,aQ,aQ];have g:=IW hev l hl k0 k1 Z h0 h1 e q (i+1) s1 (acc++[v]) (by omega) (by omega) (by simp;omega) r s' h;rw[List.map_append]at g;rw[wS (show i<cr by unfold cr;omega)];refine Eq.trans ?_ g;rw[mγ,mγ,lβ];rfl
def wX {ev:TS->Int->Option (Va×TS)}(hev:T4 x m ev){s:TS}{l:LI}{r:List Va}(hl:l.length<1501)(h:lS ev s l []=some (r,s'))(hm:1502<=m):Ω (m+1) 52 [.box 0 0,pL 1 (l.map iE)] ((s.tn x).hpA 0)=some (.arr 1 0 r.length 5,(s'.tn x).bx 2:: .arr (r.map Va.e)::(s'.tn x).rs 2):=by
 apply Zf m (s.tn x) (l.map iE);unfold N1;rw[lβ];exact IW hev l hl _ _ (fun k t l=>some (.arr 1 0 k 5,t.bx 2:: .arr l::t.rs 2)) (fun _ _ _=>rfl) (fun _ _ _ _ _ _ _=>rfl) l.length m 0 s [] (by omega) (by omega) (Nat.le_refl _) r s' h
def Mx {ev:TS->Int->Option (Va×TS)}(hw:∀s i v s',ev s i=some (v,s')->Wk v):∀(l:LI) (s:TS) (acc:List Va) (r:List Va) (s':TS),lS ev s l acc=some (r,s')->(∀v∈acc,Wk v)->∀v∈r,Wk v
 |[],s,acc,r,s',h,ha=>by
  simp only[lS,lα,lζ]at h;rw[<-h.1];exact ha
 |k::l,s,acc,r,s',h,ha=>by
  simp only[lS]at h;cases he:ev s k with
  |none=>rw[he]at h;cases h
  |some z=>
   obtain⟨v,s1⟩:=z;rw[he]at h;simp only at h;cases hsd:s1.sd with
   |true=>
    rw[hsd,cond_true]at h;simp only[lα,lζ]at h;rw[<-h.1];intro v hv;cases hv
   |false=>
    rw[hsd,cond_false]at h;refine Mx hw l s1 _ r s' h fun w hw2=>?_
    rcases mσ.1 hw2 with h1|h1
    ·exact ha w h1
    ·rw[List.mem_singleton.1 h1];exact hw _ _ _ _ he
def rOp (r:Va×Int)(w:No):R:=some (.tup [.p r.1.e,pI r.2],[w.r.b])
def abo {M:Nat}(w:No)(l:List Va){r:Va×Int}(h:eOp M w.name l=some r)(hM:M=112\/M=115\/M=117)(hw:∀v∈l,Wk v)(hl:l.length<=100)(hm:1511<=m):Ω m M [pL 5 (l.map Va.e),.box 0 0] [w.r.b]=rOp r w:=by
 replace hm:=bl hm;obtain⟨m,rfl,hm⟩:=hm;rcases hM with rfl|rfl|rfl
 ·match l,h with
  |a::t,h=>
   obtain rfl:=Option.some.inj h;apply UO m (List.map Va.e (a::t)) w.r;unfold GI;have e:=T0 (m:=m) w.name a (by omega);unfold vE at e;rw[show bA (List.map Va.e (a::t)) 0=some (Da.agg a.c)from rfl,bo,pR];show ct lay0.tab m 113 [pS w.name,.p a.e] [] _=_;rw[aa e];simp only[bt,bJ,bk,Va.e,pR,cb,aC];rfl
 ·match l,h with
  |a::b::t,h=>
   obtain rfl:=Option.some.inj h;apply UP m (List.map Va.e (a::b::t)) w.r;unfold GJ;have e:=Qp (m:=m) w.name a b (hw a lη) (hw b (lρ _ lη)) (by omega);unfold vE at e;rw[show bA (List.map Va.e (a::b::t)) 0=some (Da.agg a.c)from rfl,bo,pR,show bA (List.map Va.e (a::b::t)) 1=some (Da.agg b.c)from rfl,bo,pR];show ct lay0.tab m 116 [pS w.name,.p a.e,.p b.e] [] _=_;rw[aa e];simp only[bt,bJ,bk,Va.e,pR,cb,aC];rfl
 ·apply UQ m (List.map Va.e l) w.r;unfold GK;have e:=KG (m:=m) w.name l hw hl h (by omega);unfold vE at e;show ct lay0.tab m 118 [pS w.name,pL 5 (l.map Va.e)] [] _=_;rw[aa e];simp only[bt,bJ,bk,Va.e,pR,cb,aC];rfl
def YU {M:Nat}(hx:jg x){ev:TS->Int->Option (Va×TS)}(hev:T4 x m ev)(hw:∀s i v s',ev s i=some (v,s')->Wk v){s:TS}{n w:No}{v:Va}(h:Tv x ev s (.o M n w)=some (v,s'))(hM:M=112\/M=115\/M=117)(hk:n.kids.length<1501)(hm:1600<=m):
  Ω (m+2) 157 [.box 0 0,.box 1 0,.box 2 0] ([.box [.box 3 0],n.r.b,.box [.fn M [.box 10 0]]]++((s.tn x).hpA 3++[w.r.b]))=some (.p v.e,[.box [.box 3 0],n.r.b,.box [.fn M [.box 4 0]],(s'.tn x).bx 5,w.r.b]++(s'.tn x).rs 5):=by
 simp only[Tv]at h;cases hl:lS ev s n.kids []with
 |none=>rw[hl]at h;cases h
 |some z=>
  obtain⟨l,s1⟩:=z;rw[hl]at h;simp only at h;have el:=wX hev hk hl (by omega);have hwl:=Mx hw n.kids s [] l s1 hl (fun v hv=>by cases hv);have ht:List.take (List.map Va.e l).length (List.drop 0 (List.map Va.e l))=l.map Va.e:=by rw[List.drop_zero,List.take_length]
  have mw:s1.sd=false->∃v1 e1,Ω (m+1) M [pL 5 (l.map Va.e),.box 0 0] [w.r.b]=rOp (v1,e1) w/\RP x s1 v1 e1=some (v,s'):=by
   intro hsd;rw[hsd,cond_false]at h;obtain⟨h1,h2⟩:=dN h;cases ho:eOp M w.name l with
   |none=>rw[ho]at h2;cases h2
   |some z=>
    obtain⟨v1,e1⟩:=z;rw[ho]at h2;exact⟨v1,e1,abo w l ho hM hwl h1 (by omega),h2⟩
  rcases hM with rfl|rfl|rfl
  ·apply US (m+1) (s.tn x) n.r w.r;unfold GM;show ct lay0.tab (m+1) 52 [.box 0 0,pL 1 (n.kids.map iE)] ((s.tn x).hpA 0) _=_;rw[aa el,RN _ _ (lβ _).symm];show iL s1.sd _ _=_;cases hsd:s1.sd with
   |true=>
    rw[hsd,cond_true]at h;cases h;rfl
   |false=>
    obtain⟨v1,e1,g1,g2⟩:=mw hsd;unfold rOp at g1;rw[aR,ht,aa g1];simp only[bt,bJ,bk,Va.e,pR,cb,aC,aX];have ec:=qg (m:=m+1) hx g2 (by omega);simp only[Va.e]at ec;show ct lay0.tab (m+1) 158 [.box 0 0,.p (.agg v1.c),pI e1] ((s1.tn x).hpA 0) _=_;rw[aa ec];rfl
  ·apply UT (m+1) (s.tn x) n.r w.r;unfold GN;show ct lay0.tab (m+1) 52 [.box 0 0,pL 1 (n.kids.map iE)] ((s.tn x).hpA 0) _=_;rw[aa el,RN _ _ (lβ _).symm];show iL s1.sd _ _=_;cases hsd:s1.sd with
   |true=>
    rw[hsd,cond_true]at h;cases h;rfl
   |false=>
    obtain⟨v1,e1,g1,g2⟩:=mw hsd;unfold rOp at g1;rw[aR,ht,aa g1];simp only[bt,bJ,bk,Va.e,pR,cb,aC,aX];have ec:=qg (m:=m+1) hx g2 (by omega);simp only[Va.e]at ec;show ct lay0.tab (m+1) 158 [.box 0 0,.p (.agg v1.c),pI e1] ((s1.tn x).hpA 0) _=_;rw[aa ec];rfl
  ·apply UU (m+1) (s.tn x) n.r w.r;unfold GO;show ct lay0.tab (m+1) 52 [.box 0 0,pL 1 (n.kids.map iE)] ((s.tn x).hpA 0) _=_;rw[aa el,RN _ _ (lβ _).symm];show iL s1.sd _ _=_;cases hsd:s1.sd with
   |true=>
    rw[hsd,cond_true]at h;cases h;rfl
   |false=>
    obtain⟨v1,e1,g1,g2⟩:=mw hsd;unfold rOp at g1;rw[aR,ht,aa g1];simp only[bt,bJ,bk,Va.e,pR,cb,aC,aX];have ec:=qg (m:=m+1) hx g2 (by omega);simp only[Va.e]at ec;show ct lay0.tab (m+1) 158 [.box 0 0,.p (.agg v1.c),pI e1] ((s1.tn x).hpA 0) _=_;rw[aa ec];rfl
def OK (i off n:Nat)(k:Nat->R):LR i off (.el i n off) k=k n:=by
 unfold LR;simp[iL]
def LP (v:Va)(hv:Wk v)(hm:1503<=m)(K:Va->R)(Z:R)(K2:LD->R)(hK:K2 [v.e]=Z):(ct lay0.tab m 18 [pL 5 [Da.agg v.c]] [] fun d8 o9=>
  gt 0 5 d8 fun n10 n11=>
  iL (Nat.beq n10 0)
   (aJ o9 fun u12 o13=>
   f6 u12 fun l14=>
   aj o13<|
   iL (aP 0 ↑n11) (K2 l14) (none)) (none))=Z:=by
 have e:=jF (m:=m) [v] (show 1<1501 by decide) (fun w hw=>by rw[List.mem_singleton.1 hw];exact hv.len) hm;rw[show[Da.agg v.c]=[v].map Va.e from rfl,aa e,iB];simp only[Nat.beq_refl,aQ,bJ,iq,aC];exact hK
def Ś {s:TS}{i:Int}{v:Va}(h:À x s i=some v)(hv:Wk v)(hm:1600<=m):
  Ω (m+1) 110 [.box 0 0,.box 1 0] ([.box [.box 2 0],.box [pI i]]++(s.tn x).hpA 2)=some (.p v.e,[.box [.box 2 0],.box [pI i]]++(s.tn x).hpA 2):=by
 obtain⟨hb,h⟩:=dN h;apply UN m (s.tn x) i;unfold GH;cases hs:rP x i with
 |none=>rw[hs]at h;cases h
 |some vr=>
  rw[hs]at h;simp only at h;rw[show(s.tn x).fb=false from hb,aR];have hback:({s.tn x with fb:=false}:Tn)=s.tn x:=by unfold TS.tn;rw[hb]
  cases hf:vr.field with
  |true=>
   rw[hf,cond_true]at h;obtain⟨j,hj,e1,e2⟩:=dV h;have ev:=kj (m:=m) (s:=s) hs (by rw[hf,cond_true,e1];omega) (by omega);rw[hf,cond_true]at ev;rw[aa ev,OM _ hb,aC];show iL true _ _=_;rw[aQ,OK];show cL ((s.fs.map Va.e)[0+vr.slot.toNat]?) _=_;rw[Nat.zero_add,e1,Int.toNat_natCast,lσ,lδ hj,e2,Option.map_some,bo];show ag (Da.agg v.c) _=_;rw[pR];refine LP v hv (by omega) (fun _=>none) _ _ ?_;show some (D.p v.e,[Ob.box [.box 2 0],.box [pI i]]++Tn.hpA 2 {s.tn x with fb:=false})=_;rw[hback]
  |false=>
   rw[hf,cond_false]at h;obtain⟨j,hj,e1,e2⟩:=dV h;have ev:=kj (m:=m) (s:=s) hs (by rw[hf,cond_false,e1];omega) (by omega);rw[hf,cond_false]at ev;rw[aa ev,OM _ hb,aC];show iL false _ _=_;rw[aR,OK];show cL ((s.ls.map Va.e)[0+vr.slot.toNat]?) _=_;rw[Nat.zero_add,e1,Int.toNat_natCast,lσ,lδ hj,e2,Option.map_some,bo];show ag (Da.agg v.c) _=_;rw[pR];refine LP v hv (by omega) (fun _=>none) _ _ ?_;show some (D.p v.e,[Ob.box [.box 2 0],.box [pI i]]++Tn.hpA 2 {s.tn x with fb:=false})=_;rw[hback]
variable {a:Int}
def Xo {n:No}{r:LI}(h:n.kids=a::r):bA n.r.Kids 0=some (iE a):=by
 show bA (n.kids.map iE) 0=_;rw[h];rfl
def c_ {n:No}{b:Int}{r:LI}(h:n.kids=a::b::r):bA n.r.Kids 1=some (iE b):=by
 show bA (n.kids.map iE) 1=_;rw[h];rfl
def abZ {n:No}{b c:Int}{r:LI}(h:n.kids=a::b::c::r):bA n.r.Kids 2=some (iE c):=by
 show bA (n.kids.map iE) 2=_;rw[h];rfl
def ř {ev:TS->Int->Option (Va×TS)}(hev:T4 x m ev){s:TS}{n:No}{d:Int}{v:Va}(h:Tv x ev s (.l n d)=some (v,s')):
  Ω (m+1) 162 [.box 0 0,.box 1 0,.box 2 0] ([.box [.box 3 0],n.r.b,.box [pI d]]++(s.tn x).hpA 3)=some (.p v.e,[.box [.box 3 0],n.r.b,.box [pI d]]++(s'.tn x).hpA 3):=by
 simp only[Tv]at h;apply Q5 m (s.tn x) n.r d;unfold BG;match hk:n.kids,h with
 |a::r,h=>
  simp only at h;unfold nW;simp only[Xo hk,bo,dI];cases he:ev s a with
  |none=>rw[he]at h;cases h
  |some z=>
   obtain⟨w,s1⟩:=z;rw[he]at h;simp only at h;refine(hev _ _ _ _ he _).trans ?_;show iL s1.sd _ (iL (az w.n d) _ _)=_;cases hsd:s1.sd with
   |true=>rw[hsd,Bool.true_or,cond_true]at h;cases h;rfl
   |false=>
    rw[hsd,Bool.false_or]at h;cases hd:az w.n d with
    |true=>rw[hd,cond_true]at h;cases h;rfl
    |false=>
     rw[hd,cond_false]at h;match r,h with
     |b::r,h=>
      rw[aR,aR];simp only[c_ hk,bo,dI];refine(hev _ _ _ _ h _).trans ?_;rfl
def ķ:∀{f:Nat} (s:TS) (i:Int) (v:Va) (s':TS),tV x f s i=some (v,s')->Wk v
 |0,_,_,_,_,h=>by cases h
 |f+1,s,i,v,s',h=>by
  simp only[tV]at h;split at h
  ·cases h
  ·split at h
   ·cases h
   ·obtain⟨h1,h2⟩:=dN h;cases h2;exact h1
def aap {n:No}{i:Int}{M:Nat}{a b:No}(h:At n i= .o M a b):(M=112\/M=115\/M=117)/\a=n/\b=n:=by
 unfold At at h;cases h1:az n.op 1<;>cases h2:az n.op 3<;>cases h3:az n.op 2<;>cases h4:az n.op 4<;>cases h5:az n.op 5<;>cases h6:be n.name [38,38]<;>cases h7:be n.name [124,124]<;>simp only[h1,h2,h3,h4,h5,h6,h7,cond_true,cond_false,Cl.o.injEq,reduceCtorEq]at h<;>(obtain⟨rfl,rfl,rfl⟩:=h;simp)
def Gb {x:dR}(hx:jg x):∀(f m:Nat),2*f+1600<=m->T4 x m (tV x f)
 |0,m,hm=>fun s i v s' h=>by cases h
 |f+1,m,hm=>fun s i v s' h K=>by
  simp only[tV]at h;cases hn:dL x.ns i with
  |none=>rw[hn]at h;cases h
  |some n=>
   rw[hn]at h;simp only at h;cases hc:Tv x (tV x f) s (At n i)with
   |none=>rw[hc]at h;cases h
   |some z=>
    obtain⟨v1,s1⟩:=z;rw[hc]at h;obtain⟨hv,h⟩:=dN h;cases h;obtain⟨m,rfl⟩:∃k,m=k+2:=⟨m - 2,by omega⟩
    refine aak (At n i) (Ax hn (by omega)) ?_ (by omega) K;obtain⟨j,hj,_,e2⟩:=dV hn;have hkl:n.kids.length<1501:=hx.kl n (by rw[<-e2];exact lν _);cases hq:At n i with
    |c n'=>rw[hq]at hc;cases hc;exact⟨rfl,rfl⟩
    |s=>
     rw[hq]at hc;cases hc;show Ω (m+1+1) 109 _ _=_;exact UM (m+1) (s.tn x) _ rfl
    |v j=>
     rw[hq]at hc;obtain⟨w,h1,h2⟩:=mβ.1 hc;cases h2;exact Ś (m:=m+1) h1 hv (by omega)
    |o M a b=>
     obtain⟨hM,rfl,rfl⟩:=aap hq;rw[hq]at hc;exact⟨hM,YU (m:=m) hx (Gb hx f m (by omega)) ķ hc hM hkl (by omega)⟩
    |l a d=>
     rw[hq]at hc;exact ř (m:=m+1) (Gb hx f (m+1) (by omega)) hc
def Yn (l:List α):List.take l.length (List.drop 0 l)=l:=by rw[List.drop_zero,List.take_length]
def Vs (hx:jg x){i:Int}{n:No}(hn:dL x.ns i=some n):n.kids.length<1501:=by
 obtain⟨j,hj,_,e2⟩:=dV hn;exact hx.kl n (by rw[<-e2];exact lν _)
def NH (hx:jg x){s:TS}{i:Int}{v:Va}(h:yN x s i=some (v,s'))(hm:2*eF x+1700<=m):Ω m 49 [.box 0 0,pI i] ((s.tn x).hpA 0)=some (.p v.e,(s'.tn x).hpA 0):=by
 replace hm:=bl hm;obtain⟨m,rfl,hm⟩:=hm;replace hm:=bl hm;obtain⟨m,rfl,hm⟩:=hm;apply Ze (m+1) (s.tn x) i;unfold NZ;unfold yN at h;cases hn:dL x.ns i with
 |none=>rw[hn]at h;cases h
 |some n=>
 rw[hn]at h;simp only at h;show cL (bA (x.ns.map No.e) i) _=_;rw[aO,hn,Option.map_some,bo,HZ];cases hl:lS (tV x (eF x)) s n.kids []with
 |none=>rw[hl]at h;cases h
 |some z=>
 obtain⟨l,s1⟩:=z;rw[hl]at h;simp only at h;have hev:=Gb hx (eF x) m (by omega);have el:=wX hev (Vs hx hn) hl (by omega);have hwl:=Mx ķ n.kids s [] l s1 hl (fun v hv=>by cases hv);show ct lay0.tab (m+1) 52 [.box 0 0,pL 1 (n.kids.map iE)] ((s.tn x).hpA 0) _=_;rw[aa el,RN _ _ (lβ _).symm];simp only[Yn];show iL s1.sd _ _=_;cases hsd:s1.sd with
 |true=>rw[hsd,cond_true]at h;cases h;rfl
 |false=>
 rw[hsd,cond_false]at h;rw[aR];match l,h,hwl with
 |a::r,h,hwl=>
 simp only at h;rw[show bA (List.map Va.e (a::r)) 0=some (Da.agg a.c)from rfl,bo,pR];show iL (aP 32 (a.s.length:Int)) _ _=_;cases ha:aP 32 (a.s.length:Int)with
 |true=>
  rw[ha,cond_true]at h;obtain⟨s2,h1,h2⟩:=mβ.1 h;cases h2;rw[aQ,aa (q8 hx h1 (by omega)),m5];rfl
 |false=>
 rw[ha,cond_false]at h;obtain⟨⟨h1,h2,h3,h4⟩,h⟩:=dN h;have h1l:bw 1 (((List.map Va.e (a::r)).length:Nat):Int)=true:=by
  rw[bW,lβ,List.length_cons];exact mη (by omega)
 rw[aR,bo,pR,h1l,aQ];have hr:List.take ((List.map Va.e (a::r)).length - Int.toNat 1) (List.drop (Int.toNat 1) (List.map Va.e (a::r)))=r.map Va.e:=by
  show List.take ((List.map Va.e (a::r)).length - 1) (r.map Va.e)=_;rw[lψ (by rw[lβ,lβ,List.length_cons];omega)]
 rw[hr,aa (jF (m:=m+1) r (by omega) (fun w hw=>(hwl w (lρ _ hw)).len) (by omega)),iB];simp only[Nat.beq_refl,aQ,bJ,iq,aC];unfold uf;have hsg:(s1.tn x).sg.length=s1.sg.length:=lβ _;have hbg:∀d:Da,ce (s1.sg.length+[d].length) 272=true:=fun d=>Vw h3 [d] rfl
 simp only[show(s1.tn x).fb=false from h1,show(s1.tn x).eb=false from h2,aR,hsg,show(s1.tn x).sn=s1.sg.length from rfl,Nat.beq_refl,hbg,aQ];have hf1:List.take (s1.tn x).fn (List.drop 0 (s1.tn x).fs)=s1.fs.map Va.e:=by
  show List.take s1.fs.length (List.drop 0 (s1.fs.map Va.e))=_;rw[List.drop_zero,lψ (by rw[lβ];omega)]
 have hf2:List.take (s1.tn x).en (List.drop 0 (s1.tn x).es)=s1.es.map Ef.e:=by
  show List.take s1.es.length (List.drop 0 (s1.es.map Ef.e))=_;rw[List.drop_zero,lψ (by rw[lβ];omega)]
 have hf3:List.take r.length (List.drop 0 (r.map Va.e))=r.map Va.e:=by
  rw[List.drop_zero,lψ (by rw[lβ];omega)]
 simp only[hf1,hf2,hf3];let T:Bool->Tn:=fun b=>⟨(s1.tn x).tn,(s1.tn x).tf,(s1.tn x).tm,(s1.tn x).aT,(s1.tn x).aM,(s1.tn x).aN,(s1.tn x).no,(s1.tn x).ky,(s1.tn x).ip,(s1.tn x).nx,(s1.tn x).fn,(s1.tn x).ln,(s1.tn x).en,(s1.tn x).lm,(s1.tn x).rd,((s1.tn x).sg++[qr.e ⟨2,v0,n.name,a.s,n.v.s,r,0,s1.fs,s1.es⟩]).length,b,(s1.tn x).ty,(s1.tn x).bn,(s1.tn x).bs,true,(s1.tn x).fs,(s1.tn x).ls,true,(s1.tn x).es,(s1.tn x).sg++[qr.e ⟨2,v0,n.name,a.s,n.v.s,r,0,s1.fs,s1.es⟩]⟩
 have key:∀b:Bool,T b=TS.tn x {s1 with fb:=true,eb:=true,sd:=b,sg:=s1.sg++[⟨2,v0,n.name,a.s,n.v.s,r,0,s1.fs,s1.es⟩]}:=by
  intro b;show Tn.mk _ _ _ _ _ _ _ _ _ _ _ _ _ _ _ _ _ _ _ _ _ _ _ _ _ _=_;unfold TS.tn;simp only[List.map_append,List.map_cons,List.map_nil,mγ,List.length_cons,List.length_nil,lβ]
 have hb:∀b:Bool,({s1 with fb:=true,eb:=true,sg:=s1.sg++[⟨2,v0,n.name,a.s,n.v.s,r,0,s1.fs,s1.es⟩]}:TS)={s1 with fb:=true,eb:=true,sd:=s1.sd,sg:=s1.sg++[⟨2,v0,n.name,a.s,n.v.s,r,0,s1.fs,s1.es⟩]}:=fun _=>rfl
 show iL (az (s1.nx:Int) ((x.ip.map fW.e).length:Int)) (some (D.p v0.e,Tn.hpA 0 (T true))) _=_;rw[lβ];cases hq:az (s1.nx:Int) (x.ip.length:Int)with
 |true=>
  rw[hq,cond_true]at h;cases h;rw[aQ,key]
 |false=>
 rw[hq,cond_false]at h;rw[aR];show cL (bA (x.ip.map fW.e) (s1.nx:Int)) _=_;cases hp:x.ip[s1.nx]? with
 |none=>rw[hp]at h;cases h
 |some p=>
 rw[hp]at h;simp only at h;have hmem:=lξ hp;rw[aO,cd,hp,Option.map_some,bo,HW];show ct lay0.tab (m+1) 79 [.box 0 0,pI i] (Tn.hpA 0 (T s1.sd)) _=_;rw[key,aa (Qo (m:=m+1) (by omega)),bk,cb];show aW (Tn.hpA 0 (T s1.sd)) _ _=_;rw[key,aX];rw[WM,aQ];have ef:=Qq (m:=m+1) [p.r] [rO x i] (show 1<1501 by decide) (by omega);show ct lay0.tab (m+1) 15 [pL 5 ([p.r].map Va.e),pL 1 ([rO x i].map iE)] [] _=_;rw[aa ef,bk,aF,aC];cases hfit:fR [p.r] [rO x i]with
 |false=>
  rw[hfit,cond_false]at h;cases h;rw[Bool.not_false,aQ];show some (D.p v0.e,Tn.hpA 0 (T true))=_;rw[key]
 |true=>
  rw[hfit,cond_true]at h;obtain⟨s2,g1,g2⟩:=mβ.1 h;cases g2;rw[Bool.not_true,aR];show cL (bA (x.ip.map fW.e) (s1.nx:Int)) _=_;rw[aO,cd,hp,Option.map_some,bo,HW];have hval:kg p.r=true:=by
   simp only[fR,qF,lγ]at hfit;exact hfit.1.2
  refine LP (m:=m+1) p.r (hx.wr p hmem hval) (by omega) (fun _=>none) _ _ ?_;rw[show[p.r.e][0]?=some (Da.agg p.r.c)from rfl,bo,pR];show ct lay0.tab (m+1) 19 [.box 0 0] (Tn.hpA 0 (T s1.sd)) _=_;have g3:H3 x {s1 with fb:=true,eb:=true,sd:=s1.sd,sg:=s1.sg++[⟨2,v0,n.name,a.s,n.v.s,r,0,s1.fs,s1.es⟩]}=some s':=by rw[hsd];exact g1
  rw[key,aa (Ge (m:=m+1) hx g3 (by omega)),m5];rfl
def TZ (hx:jg x){s:TS}{i:Int}{v:Va}(h:H5 x s i=some (v,s'))(hm:2*eF x+1701<=m):Ω m 47 [.box 0 0,pI i] ((s.tn x).hpA 0)=some (.p v.e,(s'.tn x).hpA 0):=by
 replace hm:=bl hm;obtain⟨m,rfl,hm⟩:=hm;apply UV m (s.tn x) i;unfold GP;unfold H5 at h;cases hn:dL x.ns i with
 |none=>rw[hn]at h;cases h
 |some n=>
 rw[hn]at h;simp only at h;show cL (bA (x.ns.map No.e) i) _=_;rw[aO,hn,Option.map_some,bo,HZ];show iL (az n.op 7) _ (VD (ct lay0.tab m) (s.tn x) i fun v t=>some (.p v.e,t.hpA 0))=_;cases h7:az n.op 7 with
 |true=>
  rw[h7,cond_true]at h;rw[aQ,aa (NH hx h (by omega)),ϑ];rfl
 |false=>
  rw[h7,cond_false]at h;rw[aR,Gb hx (eF x) m (by omega) _ _ _ _ h];rfl
def KB (hx:jg x){s:TS}{n:No}{q:Int}(h:LX x s n q=some s')(hk:n.kids.length<1501)(hm:2*eF x+1701<=m):Ω m 54 [.box 0 0,.p n.e,pI q] ((s.tn x).hpA 0)=some (.tup [],(s'.tn x).hpA 0):=by
 replace hm:=bl hm;obtain⟨m,rfl,hm⟩:=hm;replace hm:=bl hm;obtain⟨m,rfl,hm⟩:=hm;apply Ţ (m+1) (s.tn x) n.r q;unfold Ua;unfold LX at h;cases hl:lS (tV x (eF x)) s n.kids []with
 |none=>rw[hl]at h;cases h
 |some z=>
 obtain⟨l,s1⟩:=z;rw[hl]at h;simp only at h;have el:=wX (Gb hx (eF x) m (by omega)) hk hl (by omega);show ct lay0.tab (m+1) 52 [.box 0 0,pL 1 (n.kids.map iE)] ((s.tn x).hpA 0) _=_;rw[aa el,RN _ _ (lβ _).symm];simp only[Yn];show iL s1.sd _ _=_;cases hsd:s1.sd with
 |true=>rw[hsd,cond_true]at h;cases h;rfl
 |false=>
 rw[hsd,cond_false]at h;obtain⟨hes,h⟩:=dN h;rw[aR];cases ha:Rj q l s1.es.length with
 |none=>rw[ha]at h;cases h
 |some z=>
 obtain⟨e,er⟩:=z;rw[ha]at h;simp only at h;have ea:=ś (m:=m+1) q l s1.es.length ha (by omega);unfold SL at ea;show ct lay0.tab (m+1) 80 [pI q,pL 5 (l.map Va.e),pI (s1.es.length:Nat)] [] _=_;rw[aa ea];simp only[bt,bJ,bk,cb,aC,show ∀K,rI e.e K=K ⟨e.k,e.n,e.a,e.b⟩from fun _=>rfl];cases he:az er 0 with
 |false=>
  rw[he,cond_false]at h;rw[Bool.not_false,aQ,aa (q8 hx h (by omega)),m5]
 |true=>
  rw[he,cond_true]at h;obtain⟨hb,h⟩:=dN h;cases h;have hg:ce (s1.es.length+1) 40=true:=by unfold ce;rw[lγ,Nat.ble_eq,Nat.ble_eq];omega
  rw[Bool.not_true,aR];show iL s1.eb _ (iL (Nat.beq s1.es.length (s1.es.map Ef.e).length) (iL (ce ((s1.es.map Ef.e).length+1) 40) (some (D.tup [],Tn.hpA 0 {s1.tn x with en:=(s1.es.map Ef.e++[e.e]).length,eb:=false,es:=s1.es.map Ef.e++[e.e]})) _) _)=_;rw[hb,aR,lβ,Nat.beq_refl,hg,aQ,aQ];refine congrArg (fun t=>some (D.tup [],Tn.hpA 0 t)) ?_;unfold TS.tn;simp only[List.map_append,List.map_cons,List.map_nil,mγ,List.length_cons,List.length_nil,lβ,hb,hsd]
def Ul (x:dR)(m:Nat)(st:TS->Int->Option TS):Prop:=∀s i s',st s i=some s'->Ω m 20 [.box 0 0,pI i] ((s.tn x).hpA 0)=some (.tup [],(s'.tn x).hpA 0)
variable {st:TS->Int->Option TS}
def Qm (hx:jg x)(hst:Ul x m st){s:TS}{n:No}(h:eBr x st s n=some s')(hm:2*eF x+1700<=m):Ω (m+1) 50 [.box 0 0,.p n.e] ((s.tn x).hpA 0)=some (.tup [],(s'.tn x).hpA 0):=by
 apply Q3 m (s.tn x) n.r;unfold BE;unfold eBr at h;match hk:n.kids,h with
 |a::r,h=>
  simp only at h;unfold nV;simp only[Xo hk,bo,dI];cases he:tV x (eF x) s a with
  |none=>rw[he]at h;cases h
  |some z=>
   obtain⟨w,s1⟩:=z;rw[he]at h;simp only at h;refine(Gb hx (eF x) m (by omega) _ _ _ _ he _).trans ?_;show iL s1.sd _ (iL (az w.n 1) _ (iL (az (((n.kids.map iE).length:Nat):Int) 3) _ _))=_;cases hsd:s1.sd with
   |true=>rw[hsd,cond_true]at h;cases h;rfl
   |false=>
    rw[hsd,cond_false]at h;rw[aR];cases hd:az w.n 1 with
    |true=>
     rw[hd,cond_true]at h;match r,h with
     |b::r,h=>
      rw[aQ];simp only[c_ hk,bo,dI];rw[aa (hst _ _ _ h),m5]
    |false=>
     rw[hd,cond_false]at h;rw[aR,lβ,hk];match r,h with
     |[b,c],h=>
      rw[show az (((([a,b,c]:LI).length:Nat)):Int) 3=true from rfl,aQ];simp only[abZ hk,bo,dI];rw[aa (hst _ _ _ h),m5]
     |[],h=>cases h;rfl
     |[b],h=>cases h;rfl
     |b::c::d::r,h=>
      have e:az ((((a::b::c::d::r:LI).length:Nat)):Int) 3=false:=by
       rw[bE];simp only[List.length_cons,lμ];omega
      cases h;rw[e];rfl
def Pq {m:Nat}{x:dR}(hx:jg x){st:TS->Int->Option TS}(hst:Ul x m st){n:No}(hm:2*eF x+1700<=m)(k0:lM->R)(k1:Bool×Tn×af×ah->R)(k2:Bool×Tn×af->R)(Z:Tn->R)
  (h0:∀t a,k0 (t,a)=Z t) (h1:∀b t a v,k1 (b,t,a,v)=Z t) (h2:∀b t a,k2 (b,t,a)=Z t):∀(q Q:Nat) (s s':TS),q<=Q->pT x st n q s=some s'->itL (ug (ct lay0.tab m) m k0 k1 k2) Q (s.tn x,n.r)=Z (s'.tn x)
 |0,_,_,_,_,h=>by cases h
 |q+1,0,_,_,hq,_=>by omega
 |q+1,Q+1,s,s',hq,h=>by
  simp only[pT]at h;rw[nt];unfold ug;show iL (!s.sd) (iL (az s.rd 0) _ _) _=_;cases hsd:s.sd with
  |true=>
   rw[hsd,cond_true]at h;cases h;rw[Bool.not_true,aR];exact h2 _ _ _
  |false=>
  rw[hsd,cond_false]at h;rw[Bool.not_false,aQ];cases hr:az s.rd 0 with
  |true=>
   rw[hr,cond_true]at h;rw[aQ,aa (q8 hx h (by omega)),m5];exact h0 _ _
  |false=>
  rw[hr,cond_false]at h;rw[aR];match hk:n.kids,h with
  |a::r,h=>
  obtain⟨⟨g1,g2⟩,h⟩:=dN h;unfold uh;simp only[Xo hk,bo,dI];cases he:tV x (eF x) {s with rd:=s.rd - 1} a with
  |none=>rw[hsd]at he;rw[he]at h;cases h
  |some z=>
   obtain⟨w,s1⟩:=z;have hw:aq .i64 ((s.tn x).rd - 1)=s.rd - 1:=gU (by show _<=s.rd - 1;omega) (by show s.rd - 1<_;omega);rw[hw];refine(Gb hx (eF x) m (by omega) _ _ _ _ he _).trans ?_;rw[hsd]at he;rw[he]at h;simp only at h;show iL s1.sd _ (iL (az w.n 0) _ _)=_;cases hsd1:s1.sd with
   |true=>rw[hsd1,Bool.true_or,cond_true]at h;cases h;exact h1 _ _ _ _
   |false=>
    rw[hsd1,Bool.false_or]at h;rw[aR];cases hd:az w.n 0 with
    |true=>rw[hd,cond_true]at h;cases h;exact h1 _ _ _ _
    |false=>
     rw[hd,cond_false]at h;match r,h with
     |b::r,h=>
      simp only at h;cases hs:st s1 b with
      |none=>rw[hs]at h;cases h
      |some s2=>
       rw[hs]at h;simp only at h;rw[aR];simp only[c_ hk,bo,dI];rw[aa (hst _ _ _ hs),m5];exact Pq hx hst hm k0 k1 k2 Z h0 h1 h2 q Q s2 s' (by omega) h
def YT (hx:jg x)(hst:Ul x m st){s:TS}{n:No}(h:pT x st n eQ s=some s')(hm:2*eF x+7000<=m):Ω (m+1) 51 [.box 0 0,.p n.e] ((s.tn x).hpA 0)=some (.tup [],(s'.tn x).hpA 0):=by
 apply Zg m (s.tn x) n.r;unfold N2;exact Pq hx hst (by omega) _ _ _ (fun t=>some (.tup [],t.hpA 0)) (fun _ _=>rfl) (fun _ _ _ _=>rfl) (fun _ _ _=>rfl) eQ m s s' (by unfold eQ;omega) h
def VE {m:Nat}{x:dR}{st:TS->Int->Option TS}(hst:Ul x m st)(l:LI)(hl:l.length<1501)(k0:LD×Int×Int×Bool×Tn->R)(Z:Tn->R)(h0:∀a b c d t,k0 (a,b,c,d,t)=Z t):∀(e q i:Nat) (s s':TS),i+e=l.length->e<q->AP st (l.drop i) s=some s'->
  itL (fu (ct lay0.tab m) m k0) q (l.map iE,(l.length:Int),(i:Int),s.tn x)=Z (s'.tn x)
 |0,q+1,i,s,s',hi,_,h=>by
  obtain rfl:i=l.length:=by omega
  rw[List.drop_length]at h;simp only[AP,lα]at h;subst h;rw[nt];simp only[fu,cH,aR];exact h0 _ _ _ _ _
 |e+1,q+1,i,s,s',hi,hq,h=>by
  have hil:i<l.length:=by omega
  rw[lχ hil]at h;simp only[AP]at h;cases hs:st s l[i]with
  |none=>rw[hs]at h;cases h
  |some s1=>
   rw[hs]at h;simp only at h;rw[nt];simp only[fu,ej (show((i:Int)<(l.length:Int)) by omega),aQ,aO,bi,aU hil,bo,dI,aa (hst _ _ _ hs),m5,wS (show i<cr by unfold cr;omega)];exact VE hst l hl k0 Z h0 e q (i+1) s1 s' (by omega) (by omega) h
def Zx (cc:ab)(c:Tn)(u2:af)(i:Int):R:=
   (cL (bA u2.Kids 0) fun x3=>
   bg .i64 x3 fun i4=>
   cc 47 [(.box 0 0),(pI i4)] (c.hpA 0) fun d5 o6=>
   dW d5 o6 fun u7 u8=>
   iL (!u8.sd)
   (iL u8.fb
    (none)
    (cc 48 [(.box 0 0),(pI i)] (u8.hpV 0) fun d9 o10=>
    Z8 0 o10 fun u11 o12=>
    aj o12<|
    iL (isE 3 d9)
    (LR 3 0 d9 fun n13=>
    cL u11.fs[n13]? fun x14=>
    ag x14 fun u15=>
    some ((.tup []),(Tn.hpA 0 {u11 with fb:=false,fs:=(List.set u11.fs n13 (Da.agg (splice (cells (ah.e u15)) 0 (cells (Da.agg [Da.int .i64 u7.Kind,Da.int .i64 u7.N,Da.str u7.S,Da.slice 1 u7.I,Da.slice 1 u7.L])))))})))
    (LR 4 0 d9 fun n16=>
    cL u11.ls[n16]? fun x17=>
    ag x17 fun u18=>
    some ((.tup []),(Tn.hpA 0 {u11 with fb:=false,ls:=(List.set u11.ls n16 (Da.agg (splice (cells (ah.e u18)) 0 (cells (Da.agg [Da.int .i64 u7.Kind,Da.int .i64 u7.N,Da.str u7.S,Da.slice 1 u7.I,Da.slice 1 u7.L])))))})))))
   (some ((.tup []),(u8.hpA 0))))
def z_ {s:TS}{i:Int}{w:Va}(h:RR x s i w=some s')(hm:3<=m):(ct lay0.tab m 48 [(.box 0 0),(pI i)] ((s.tn x).hpV 0) fun d9 o10=>
    Z8 0 o10 fun u11 o12=>
    aj o12<|
    iL (isE 3 d9)
    (LR 3 0 d9 fun n13=>
    cL u11.fs[n13]? fun x14=>
    ag x14 fun u15=>
    some ((.tup []),(Tn.hpA 0 {u11 with fb:=false,fs:=(List.set u11.fs n13 (Da.agg (splice (cells (ah.e u15)) 0 (cells (Da.agg [Da.int .i64 w.r.Kind,Da.int .i64 w.r.N,Da.str w.r.S,Da.slice 1 w.r.I,Da.slice 1 w.r.L])))))})))
    (LR 4 0 d9 fun n16=>
    cL u11.ls[n16]? fun x17=>
    ag x17 fun u18=>
    some ((.tup []),(Tn.hpA 0 {u11 with fb:=false,ls:=(List.set u11.ls n16 (Da.agg (splice (cells (ah.e u18)) 0 (cells (Da.agg [Da.int .i64 w.r.Kind,Da.int .i64 w.r.N,Da.str w.r.S,Da.slice 1 w.r.I,Da.slice 1 w.r.L])))))}))))=some (.tup [],(s'.tn x).hpA 0):=by
 obtain⟨hb,h⟩:=dN h;cases hs:rP x i with
 |none=>rw[hs]at h;cases h
 |some vr=>
  rw[hs]at h;simp only at h;cases hf:vr.field with
  |true=>
   rw[hf,cond_true]at h;obtain⟨v,h1,h2⟩:=mβ.1 h;obtain⟨j,hj,e1,e2⟩:=dV h1;have ev:=kj (m:=m) (s:=s) hs (by rw[hf,cond_true,e1];omega) (by omega);rw[hf,cond_true]at ev;rw[aa ev,OM _ hb,aC];show iL true _ _=_;rw[aQ,OK];show cL ((s.fs.map Va.e)[0+vr.slot.toNat]?) _=_;rw[Nat.zero_add,e1,Int.toNat_natCast,lσ,lδ hj,e2,Option.map_some,bo];show ag (Da.agg v.c) _=_;rw[pR];show some (D.tup [],Tn.hpA 0 {s.tn x with fb:=false,fs:=(s.fs.map Va.e).set j w.e})=_;rw[<-h2,e1,Int.toNat_natCast];unfold TS.tn;simp only[List.map_set,List.length_set,hb]
  |false=>
   rw[hf,cond_false]at h;obtain⟨v,h1,h2⟩:=mβ.1 h;obtain⟨j,hj,e1,e2⟩:=dV h1;have ev:=kj (m:=m) (s:=s) hs (by rw[hf,cond_false,e1];omega) (by omega);rw[hf,cond_false]at ev;rw[aa ev,OM _ hb,aC];show iL false _ _=_;rw[aR,OK];show cL ((s.ls.map Va.e)[0+vr.slot.toNat]?) _=_;rw[Nat.zero_add,e1,Int.toNat_natCast,lσ,lδ hj,e2,Option.map_some,bo];show ag (Da.agg v.c) _=_;rw[pR];show some (D.tup [],Tn.hpA 0 {s.tn x with fb:=false,ls:=(s.ls.map Va.e).set j w.e})=_;rw[<-h2,e1,Int.toNat_natCast];unfold TS.tn;simp only[List.map_set,List.length_set,hb]
def Vp (hx:jg x){s:TS}{i:Int}{n:No}(h:(match n.kids with
    |a::_=>(match H5 x s a with
     |none=>none
     |some (v,s')=>bif s'.sd then some s' else RR x s' i v)
    |[]=>none)=some s')(hm:2*eF x+1701<=m):Zx (ct lay0.tab m) (s.tn x) n.r i=some (.tup [],(s'.tn x).hpA 0):=by
 unfold Zx;match hk:n.kids,h with
 |a::r,h=>
  simp only at h;simp only[Xo hk,bo,dI];cases hv:H5 x s a with
  |none=>rw[hv]at h;cases h
  |some z=>
   obtain⟨w,s1⟩:=z;rw[hv]at h;simp only at h;rw[aa (TZ hx hv hm),ϑ];show iL (!s1.sd) (iL s1.fb _ _) _=_;cases hsd:s1.sd with
   |true=>rw[hsd,cond_true]at h;cases h;rfl
   |false=>
    rw[hsd,cond_false]at h;have hb:s1.fb=false:=(dN h).1;rw[Bool.not_false,aQ,hb,aR];exact z_ h (by omega)
def ã (l:List Va):((l.map Va.e)++[v0.e])[0]?=some (Da.agg (l.headD v0).c):=by cases l<;>rfl
def Ř {x:dR}(hx:jg x):∀(f m:Nat),2*f+2*eF x+7002<=m->Ul x m (Ks x f)
 |0,m,hm=>fun s i s' h=>by cases h
 |f+1,m,hm=>fun s i s' h=>by
  replace hm:=bl hm;obtain⟨m,rfl,hm⟩:=hm;replace hm:=bl hm;obtain⟨m,rfl,hm⟩:=hm;have hst1:=Ř hx f (m+1) (by omega);have hst0:=Ř hx f m (by omega);apply Dm (m+1) (s.tn x) i;unfold rj;simp only[Ks]at h;show iL s.sd _ (cL (bA (x.ns.map No.e) i) _)=_;cases hsd:s.sd with
  |true=>rw[hsd,cond_true]at h;cases h;rfl
  |false=>
  rw[hsd,cond_false]at h;rw[aR];cases hn:dL x.ns i with
  |none=>rw[hn]at h;cases h
  |some n=>
  rw[hn]at h;simp only at h;have hkl:=Vs hx hn;rw[aO,hn,Option.map_some,bo,HZ];show iL (az n.op 8) (iL (az n.op 8) (Zx (ct lay0.tab (m+1)) (s.tn x) n.r i) _) (iL (az n.op 9) (Zx (ct lay0.tab (m+1)) (s.tn x) n.r i) (iL (az n.op 10) _ (iL (az n.op 11) _ (iL (az n.op 12) _ (iL (az n.op 13) _ (iL (az n.op 14) _ (iL (az n.op 15) _ (iL (az n.op 16) _ (iL (az n.op 17) _ (iL (az n.op 18) _ _))))))))))=_;cases h8:az n.op 8 with
  |true=>
   rw[h8,Bool.true_or,cond_true]at h;rw[aQ,aQ];exact Vp hx h (by omega)
  |false=>
  rw[h8,Bool.false_or]at h;rw[aR];cases h9:az n.op 9 with
  |true=>
   rw[h9,cond_true]at h;rw[aQ];exact Vp hx h (by omega)
  |false=>
  rw[h9,cond_false]at h;rw[aR];cases h10:az n.op 10 with
  |true=>
   rw[h10,cond_true]at h;rw[aQ];match hk:n.kids,h with
   |a::r,h=>
    obtain⟨⟨w,s1⟩,g1,g2⟩:=mβ.1 h;simp only at g2;subst g2;simp only[Xo hk,bo,dI];rw[aa (NH hx g1 (by omega)),ϑ]
  |false=>
  rw[h10,cond_false]at h;rw[aR];cases h11:az n.op 11 with
  |true=>
   rw[h11,cond_true]at h;rw[aQ];show ct lay0.tab (m+1) 50 [.box 0 0,.p n.e] ((s.tn x).hpA 0) _=_;rw[aa (Qm hx hst0 h (by omega)),m5]
  |false=>
  rw[h11,cond_false]at h;rw[aR];cases h12:az n.op 12 with
  |true=>
   rw[h12,cond_true]at h;rw[aQ];show ct lay0.tab (m+1) 51 [.box 0 0,.p n.e] ((s.tn x).hpA 0) _=_;rw[aa (YT hx hst0 h (by omega)),m5]
  |false=>
  rw[h12,cond_false]at h;rw[aR];cases h13:az n.op 13 with
  |true=>
   rw[h13,cond_true]at h;rw[aQ];cases hl:lS (tV x (eF x)) s n.kids []with
   |none=>rw[hl]at h;cases h
   |some z=>
   obtain⟨l,s1⟩:=z;rw[hl]at h;simp only at h;have el:=wX (Gb hx (eF x) m (by omega)) hkl hl (by omega);show ct lay0.tab (m+1) 52 [.box 0 0,pL 1 (n.kids.map iE)] ((s.tn x).hpA 0) _=_;rw[aa el,RN _ _ (lβ _).symm];show iL (!s1.sd) _ _=_;cases hs1:s1.sd with
   |true=>rw[hs1,cond_true]at h;cases h;rfl
   |false=>
    rw[hs1,cond_false]at h;obtain⟨g1,g2⟩:=dN h;have hg:ce ((l.map Va.e).length+1) 80=true:=by unfold ce;rw[lγ,Nat.ble_eq,Nat.ble_eq,lβ];omega
    show iL true (iL (Nat.beq (l.map Va.e).length (l.map Va.e).length) (iL (ce ((l.map Va.e).length+1) 80) (iL (aP 0 ((((l.map Va.e)++[v0.e]).length:Nat):Int)) (cL (((l.map Va.e)++[v0.e])[0]?) _) _) _) _) _=_;have hp:aP 0 ((((l.map Va.e)++[v0.e]).length:Nat):Int)=true:=by rw[dJ,mγ,List.length_singleton];exact mη (by omega)
    rw[aQ,Nat.beq_refl,hg,hp,aQ,aQ,aQ,ã,bo,pR];show ct lay0.tab (m+1) 21 [.box 0 0,.p (l.headD v0).e] _ _=_;rw[aa (Bf g2 (by omega)),m5]
  |false=>
  rw[h13,cond_false]at h;rw[aR];cases h14:az n.op 14 with
  |true=>
   rw[h14,cond_true]at h;rw[aQ,aa (q8 hx h (by omega)),m5]
  |false=>
  rw[h14,cond_false]at h;rw[aR];cases h15:az n.op 15 with
  |true=>
   rw[h15,cond_true]at h;rw[aQ];show ct lay0.tab (m+1) 54 [.box 0 0,.p n.e,pI 1] ((s.tn x).hpA 0) _=_;rw[aa (KB hx h hkl (by omega)),m5]
  |false=>
  rw[h15,cond_false]at h;rw[aR];cases h16:az n.op 16 with
  |true=>
   rw[h16,cond_true]at h;rw[aQ];show ct lay0.tab (m+1) 54 [.box 0 0,.p n.e,pI 2] ((s.tn x).hpA 0) _=_;rw[aa (KB hx h hkl (by omega)),m5]
  |false=>
  rw[h16,cond_false]at h;rw[aR];cases h17:az n.op 17 with
  |true=>
   rw[h17,cond_true]at h;rw[aQ];show ct lay0.tab (m+1) 54 [.box 0 0,.p n.e,pI 3] ((s.tn x).hpA 0) _=_;rw[aa (KB hx h hkl (by omega)),m5]
  |false=>
  rw[h17,cond_false]at h;rw[aR];cases h18:az n.op 18 with
  |true=>
   rw[h18,cond_true]at h;obtain⟨g1,g2⟩:=dN h;rw[aQ];show itL (fu _ _ _) (m+1) (n.kids.map iE,(((n.kids.map iE).length:Nat):Int),((0:Nat):Int),s.tn x)=_;rw[lβ];exact VE hst1 n.kids g1 _ (fun t=>some (.tup [],t.hpA 0)) (fun _ _ _ _ _=>rfl) n.kids.length (m+1) 0 s s' (by omega) (by omega) g2
  |false=>
   rw[h18,cond_false]at h;cases h;rfl
def YV (l:List Va)(ks:LI)(hl:l.length<1501)(hm:1506<=m):Ω m 37 [pL 5 (l.map Va.e),.arr 0 0 ks.length 1,.p (.fn 38 [])] [.arr (ks.map iE)]=some (pB (fR l ks),[.arr (ks.map iE)]):=by
 replace hm:=bl hm;obtain⟨m,rfl,hm⟩:=hm;apply Zi m (l.map Va.e) ks.length (ks.map iE);unfold N4;rw[lβ,bE,iD];by_cases h:(l.length:Int)=(ks.length:Int)
 ·have h':l.length=ks.length:=by omega
  rw[if_pos h,yX l ks h'];have hz:(l.zip ks).length=l.length:=by rw[mρ];omega
  refine(bp (l.zip ks) (fun q i=>itL (lO _ m _ _) q (ks.length,l.map Va.e,(l.length:Int),i,ks.map iE)) (fun p=>!qF p.1 p.2) (fun _=>some (pB false,[.arr (ks.map iE)])) (some (pB true,[.arr (ks.map iE)])) (fun q i hi=>?_) (fun q=>?_) (by omega)).trans ?_
  ·rw[hz]at hi;rw[nt];have hg:(ks.map iE)[0+(i:Int).toNat]?=some (iE (ks[i]'(by omega))):=by
    rw[Nat.zero_add,Int.toNat_natCast,lσ,lδ (by omega)];rfl
   simp only[lO,ej (show((i:Int)<(l.length:Int)) by omega),ej (show((i:Int)<(ks.length:Int)) by omega),bW,show(0:Int)<=(i:Int) by omega,decide_true,aQ,aO,bi,aU hi,hg,bo,Va.e,pR,dI,wS (show i<cr by unfold cr;omega),List.getElem_zip];have e:=NI (m:=m) l[i] (ks[i]'(by omega)) (by omega);simp only[Va.e]at e;show ct lay0.tab m 38 [.p (.agg l[i].c),_] [] _=_;rw[aa e];simp only[bk,aF,aC];cases qF l[i] (ks[i]'(by omega))<;>rfl
  ·rw[nt,hz];simp only[lO,cH,aR]
  ·rw[fd];cases(l.zip ks).findIdx? fun p=>!qF p.1 p.2<;>rfl
 ·rw[if_neg h,yW l ks (by omega)]
def xI (l:List Va)(ks:LI)(hl:l.length<1501)(hm:1507<=m):Ω m 15 [pL 5 (l.map Va.e),.arr 0 0 ks.length 1] [.arr (ks.map iE)]=some (pB (fR l ks),[.arr (ks.map iE)]):=by
 replace hm:=bl hm;obtain⟨m,rfl,hm⟩:=hm;apply Lt m (l.map Va.e) ks.length (ks.map iE);unfold xW;rw[aa (YV (m:=m) l ks hl hm)];simp only[bk,aF,aX]
def Kz (p:fW)(ks:LI)(hl:p.f.length<1501)(hm:1508<=m):Ω m 41 [.p p.e,.box 0 0] [.box [.arr 1 0 ks.length 1],.arr (ks.map iE)]=some (pB (!fR p.f ks),[.box [.arr 1 0 ks.length 1],.arr (ks.map iE)]):=by
 replace hm:=bl hm;obtain⟨m,rfl,hm⟩:=hm;apply Ll m p.rr ks.length (ks.map iE);unfold xO;show ct lay0.tab m 15 [pL 5 (p.f.map Va.e),_] _ _=_;rw[aa (xI (m:=m) p.f ks hl hm)];simp only[bk,aF,bJ,iq,aC]
def TG (ip:List fW)(ks:LI)(hl:∀p∈ip,p.f.length<1501)(hi:ip.length<1501)(hm:1509<=m):Ω m 76 [pL 6 (ip.map fW.e),.fn 41 [.box 0 0]] [.box [.arr 1 0 ks.length 1],.arr (ks.map iE)]=some (pI (match ip.findIdx? (fun p=>!fR p.f ks)with|some j=>(j:Int)|none=> -1),[.box [.arr 1 0 ks.length 1],.arr (ks.map iE)]):=by
 replace hm:=bl hm;obtain⟨m,rfl,hm⟩:=hm;apply Uq m (ip.map fW.e) ks.length (ks.map iE);unfold Gm;rw[lβ];refine(bp ip (fun q i=>itL (jQ _ m _ _) q (ip.map fW.e,(ip.length:Int),i,ks.length,ks.map iE)) (fun p=>!fR p.f ks) (fun j=>some (pI (j:Int),[.box [.arr 1 0 ks.length 1],.arr (ks.map iE)])) (some (pI (-1),[.box [.arr 1 0 ks.length 1],.arr (ks.map iE)])) (fun q i hi=>?_) (fun q=>?_) (by omega)).trans ?_
 ·rw[nt];simp only[jQ,ej (show((i:Int)<(ip.length:Int)) by omega),aQ,aO,bi,aU hi,bo,HW,wS (show i<cr by unfold cr;omega)];have e:=Kz (m:=m) ip[i] ks (hl _ (lν _)) hm;show ct lay0.tab m 41 [.p ip[i].e,.box 0 0] _ _=_;rw[aa e];simp only[bk,aF,aX];cases fR ip[i].f ks<;>rfl
 ·rw[nt];simp only[jQ,cH,aR]
 ·cases ip.findIdx? fun p=>!fR p.f ks<;>rfl
def P5 (ip:List fW)(ks:LI)(hl:∀p∈ip,p.f.length<1501)(hi:ip.length<1501)(hm:1510<=m):Ω m 40 [pL 6 (ip.map fW.e),.fn 41 [.box 0 0]] [.box [.arr 1 0 ks.length 1],.arr (ks.map iE)]=some (pB (!(ip.all fun p=>fR p.f ks)),[.box [.arr 1 0 ks.length 1],.arr (ks.map iE)]):=by
 replace hm:=bl hm;obtain⟨m,rfl,hm⟩:=hm;apply QI m (ip.map fW.e) ks.length (ks.map iE);unfold Bh;rw[aa (TG (m:=m) ip ks hl hi hm)];simp only[bk,cb,aX];rw[fd,bW];cases ip.findIdx? fun p=>!fR p.f ks with
 |none=>rfl
 |some j=>simp
def Km {m:Nat}(fl:List Fe)(hl:fl.length<1501)(ip:LD)(K:_->R):∀(e q i:Nat),i+e=fl.length->e<q->itL (hP (ct lay0.tab m) m K) q (ip,fl.map Fe.e,(fl.length:Int),(i:Int),i,((fl.take i).map Fe.kind).map iE)=K (ip,fl.map Fe.e,(fl.length:Int),(fl.length:Int),false,fl.length,(fl.map Fe.kind).map iE)
 |0,q+1,i,hi,_=>by
  obtain rfl:i=fl.length:=by omega
  rw[nt];simp only[hP,cH,aR,List.take_length]
 |e+1,q+1,i,hi,hq=>by
  have hil:i<fl.length:=by omega
  rw[nt];have hlen:(((fl.take i).map Fe.kind).map iE).length=i:=by rw[lβ,lβ,mκ];omega
  have hb:ce (i+[Da.int .i64 fl[i].r.Kind].length) 8=true:=yx (by simp;omega);have ht:((fl.take i).map Fe.kind).map iE++[Da.int .i64 fl[i].r.Kind]=((fl.take (i+1)).map Fe.kind).map iE:=by
   rw[List.take_add_one,lδ hil,Option.toList_some,List.map_append,List.map_append];rfl
  simp only[hP,ej (show((i:Int)<(fl.length:Int)) by omega),aQ,aO,bi,aU hil,bo,dFe,hlen,Nat.beq_refl,hb,wS (show i<cr by unfold cr;omega)];rw[ht,show(((fl.take (i+1)).map Fe.kind).map iE).length=i+1 by rw[lβ,lβ,mκ];omega];exact Km fl hl ip K e q (i+1) (by omega) (by omega)
def uW (a:Ac)(ip:List fW):Bool:=match ip with
 |[]=>false
 |p::_=>mh p.r v0&&ip.all fun p=>fR p.f (a.fields.map Fe.kind)
def TH (a:Ac)(ip:List fW)(ha:a.fields.length<1501)(hl:∀p∈ip,p.f.length<1501)(hi:ip.length<1501)(hm:1511<=m):Ω m 16 [.p a.e,pL 6 (ip.map fW.e)] []=some (pB (uW a ip),[]):=by
 replace hm:=bl hm;obtain⟨m,rfl,hm⟩:=hm;apply Ur m a.r (ip.map fW.e);unfold Gn uW;match ip,hl,hi with
 |[],_,_=>rfl
 |p::r,hl,hi=>
  have hne:az (((List.map fW.e (p::r)).length:Nat):Int) 0=false:=by rw[bE,lβ,List.length_cons,lμ];omega
  have es:=C5 (n:=m - 1504) p.r v0 (.inr (by decide)) (.inr (by decide));rw[show m - 1504+1504=m by omega]at es;rw[hne,aR,show bA (List.map fW.e (p::r)) 0=some p.e from rfl,bo,HW];show ct lay0.tab m 39 [.p (.agg p.r.c),.p (.agg v0.c)] [] _=_;rw[aa es];simp only[bk,aF,aC];cases hs:mh p.r v0 with
  |false=>rfl
  |true=>
   rw[Bool.not_true,aR];show itL (hP (ct lay0.tab m) m _) m (List.map fW.e (p::r),a.fields.map Fe.e,(((a.fields.map Fe.e).length:Nat):Int),((0:Nat):Int),0,((a.fields.take 0).map Fe.kind).map iE)=_;rw[lβ,Km a.fields ha _ _ a.fields.length m 0 (by omega) (by omega)];have ec:=P5 (m:=m) (p::r) (a.fields.map Fe.kind) hl hi hm;rw[lβ]at ec;show ct lay0.tab m 40 _ _ _=_;rw[aa ec];simp only[bk,aF,aX,Bool.not_not,Bool.true_and]
def wH (l:List Ac)(s:LN):Int:=match l.findIdx? (fun a=>be a.name s)with|some j=>(j:Int)|none=> -1
def EF (l:List Me)(s:LN):Int:=match l.findIdx? (fun a=>be a.name s)with|some j=>(j:Int)|none=> -1
def P7 (l:List Ac)(s:LN)(hl:l.length<1501)(hm:1503<=m):Ω m 33 [pL 3 (l.map Ac.e),.fn 34 [.box 0 0]] [.box [pS s]]=some (pI (wH l s),[.box [pS s]]):=by
 replace hm:=bl hm;obtain⟨m,rfl,hm⟩:=hm;obtain⟨m,rfl⟩:∃k,m=k+1:=⟨m - 1,by omega⟩
 apply QK (m+1) (l.map Ac.e) s;unfold Bj wH;rw[lβ];refine(bp l (fun q i=>itL (iM _ (m+1) _ _) q (l.map Ac.e,(l.length:Int),i,s)) (fun a=>be a.name s) (fun j=>some (pI (j:Int),[.box [pS s]])) (some (pI (-1),[.box [pS s]])) (fun q i hi=>?_) (fun q=>?_) (by omega)).trans ?_
 ·rw[nt];simp only[iM,ej (show((i:Int)<(l.length:Int)) by omega),aQ,aO,bi,aU hi,bo,Z6,wS (show i<cr by unfold cr;omega)];have e:Ω (m+1) 34 [.p l[i].e,.box 0 0] [.box [pS s]]=some (pB (be l[i].name s),[.box [pS s]]):=Li m l[i].r s _ rfl;show ct lay0.tab (m+1) 34 [.p l[i].e,.box 0 0] _ _=_;rw[aa e];simp only[bk,aF,aX];exact fY _ _ _
 ·rw[nt];simp only[iM,cH,aR]
 ·cases l.findIdx? fun a=>be a.name s<;>rfl
def P6 (l:List Me)(s:LN)(hl:l.length<1501)(hm:1503<=m):Ω m 35 [pL 4 (l.map Me.e),.fn 36 [.box 0 0]] [.box [pS s]]=some (pI (EF l s),[.box [pS s]]):=by
 replace hm:=bl hm;obtain⟨m,rfl,hm⟩:=hm;obtain⟨m,rfl⟩:∃k,m=k+1:=⟨m - 1,by omega⟩
 apply QJ (m+1) (l.map Me.e) s;unfold Bi EF;rw[lβ];refine(bp l (fun q i=>itL (iK _ (m+1) _ _) q (l.map Me.e,(l.length:Int),i,s)) (fun a=>be a.name s) (fun j=>some (pI (j:Int),[.box [pS s]])) (some (pI (-1),[.box [pS s]])) (fun q i hi=>?_) (fun q=>?_) (by omega)).trans ?_
 ·rw[nt];simp only[iK,ej (show((i:Int)<(l.length:Int)) by omega),aQ,aO,bi,aU hi,bo,Z7,wS (show i<cr by unfold cr;omega)];have e:Ω (m+1) 36 [.p l[i].e,.box 0 0] [.box [pS s]]=some (pB (be l[i].name s),[.box [pS s]]):=Lj m l[i].r s _ rfl;show ct lay0.tab (m+1) 36 [.p l[i].e,.box 0 0] _ _=_;rw[aa e];simp only[bk,aF,aX];exact fY _ _ _
 ·rw[nt];simp only[iK,cH,aR]
 ·cases l.findIdx? fun a=>be a.name s<;>rfl
def IX (p:List Ac)(t m:LN):Option (Int×Int):=bif aP (wH p t) 0 then none else match dL p (wH p t)with
 |none=>none
 |some a=>bif bw 0 (EF a.methods m)then some (wH p t,EF a.methods m)else none
def Po (p:List Ac)(t:LN)(h:aP (wH p t) 0=false):∃a,dL p (wH p t)=some a:=by
 unfold wH at h ⊢
 cases hf:p.findIdx? fun a=>be a.name t with
 |none=>rw[hf]at h;cases h
 |some j=>
  have hj:j<p.length:=(mθ.1 hf).1;exact⟨p[j],aU hj⟩
def P9 {n:Nat}(p:List Ac)(t m:LN)(hp:p.length<1501)(hm:∀a∈p,a.methods.length<1501)(hn:1504<=n):∃x:bb,Ω n 14 [pD p,pS t,pS m] []=some (.tup [.p x.e,pB (IX p t m).isSome],[])/\∀a b,IX p t m=some (a,b)->x=⟨a,b,0⟩:=by
 replace hn:=bl hn;obtain⟨n,rfl,hn⟩:=hn;have et:=P7 (m:=n) p t hp hn;unfold IX;cases h:aP (wH p t) 0 with
 |true=>
  refine⟨⟨0,0,0⟩,?_,fun a b e=>by cases e⟩
  apply BS n ⟨p.map Ac.e⟩ t m;unfold tX;rw[aa et];simp only[bk,cb,aX,h,aQ];rfl
 |false=>
  obtain⟨a,ha⟩:=Po p t h;rw[cond_false,ha];simp only;refine⟨⟨wH p t,EF a.methods m,0⟩,?_,fun x y e=>?_⟩
  ·apply BS n ⟨p.map Ac.e⟩ t m;unfold tX;rw[aa et];obtain⟨j,hj,_,e2⟩:=dV ha;have em:=P6 (m:=n) a.methods m (hm a (by rw[<-e2];exact lν _)) hn;simp only[bk,cb,aX,h,aR];show cL (bA (p.map Ac.e) (wH p t)) _=_;rw[aO,ha,Option.map_some,bo,Z6];show ct lay0.tab n 35 [pL 4 (a.methods.map Me.e),_] _ _=_;rw[aa em];simp only[bk,cb,aX];cases bw 0 (EF a.methods m)<;>rfl
  ·cases hl:bw 0 (EF a.methods m)with
   |true=>rw[hl,cond_true]at e;cases e;rfl
   |false=>rw[hl,cond_false]at e;cases e
def Ő (ls:List Va):TS:=⟨0,[],ls,[],0,[],false,false,false⟩
def H4 (x:dR)(ls:List Va):Option (List qr):=match H3 x (Ő ls)with
 |none=>none
 |some s1=>match Ks x (eF x) s1 ((x.ns.length:Int) - 1)with
  |none=>none
  |some s2=>bif s2.sd then some s2.sg else(RQ s2 v0).map (·.sg)
def Z9 (p:List Ac)(t m key:LN)(args:List Va)(ip:List fW)(lm:Int):Option (List qr×Int):=
 match Oo p with
 | .bad _ _ _ e=>bif az e 0 then none else some ([],e)
 | .good bs=>match IX p t m with
  |none=>some ([],14)
  |some (ti,mi)=>match dL p ti with
   |none=>none
   |some a=>match dL a.methods mi with
    |none=>none
    |some me=>
     bif fR args (me.params.map Pa.kind)then
      (bif aP 32 (key.length:Int)||(!uW a ip||(aP lm 0||aP 20000 lm))then some ([],1)else
      gd (args.length<=(ED (cU bs ti mi)).length)<|
      (H4 ⟨p,bs,a,ti,mi,me.nodes,key,ip,lm⟩ (args++List.replicate ((ED (cU bs ti mi)).length - args.length) v0)).map fun l=>(l,0))
     else some ([],15)
def Ka {m:Nat}(pl:List Pa)(hl:pl.length<1501)(a:LN)(b c:LD)(d:Int)(u1:fH)(u2:bb)(u3:ae)(u4:aA)(K:_->R):∀(e q i:Nat),i+e=pl.length->e<q->itL (lN (ct lay0.tab m) m K) q (a,b,c,d,i,pl.map Pa.e,(pl.length:Int),(i:Int),u1,u2,u3,u4,((pl.take i).map Pa.kind).map iE)=K (a,b,c,d,pl.length,pl.map Pa.e,(pl.length:Int),(pl.length:Int),false,u1,u2,u3,u4,(pl.map Pa.kind).map iE)
 |0,q+1,i,hi,_=>by
  obtain rfl:i=pl.length:=by omega
  rw[nt];simp only[lN,cH,aR,List.take_length]
 |e+1,q+1,i,hi,hq=>by
  have hil:i<pl.length:=by omega
  rw[nt];have hlen:(((pl.take i).map Pa.kind).map iE).length=i:=by rw[lβ,lβ,mκ];omega
  have hb:ce (i+[Da.int .i64 pl[i].r.Kind].length) 8=true:=yx (by simp;omega);have ht:((pl.take i).map Pa.kind).map iE++[Da.int .i64 pl[i].r.Kind]=((pl.take (i+1)).map Pa.kind).map iE:=by
   rw[List.take_add_one,lδ hil,Option.toList_some,List.map_append,List.map_append];rfl
  simp only[lN,ej (show((i:Int)<(pl.length:Int)) by omega),aQ,aO,bi,aU hil,bo,dPa,hlen,Nat.beq_refl,hb,wS (show i<cr by unfold cr;omega)];rw[ht,show(((pl.take (i+1)).map Pa.kind).map iE).length=i+1 by rw[lβ,lβ,mκ];omega];exact Ka pl hl a b c d u1 u2 u3 u4 K e q (i+1) (by omega) (by omega)
def rSg (r:List qr×Int):R:=some (.tup [pL 18 (r.1.map qr.e),pI r.2],[])
def ú {p:List Ac}(hp:Tp p){bs:List (List CS)}(ha:Oo p= .good bs)(t m:Int):(ED (cU bs t m)).length<15010:=by
 obtain⟨hv,ht⟩:=Oq ha;obtain⟨l',g1,g2,g3⟩:=tP p 0 [] bs ht;simp only[List.nil_append]at g1;subst g1;unfold cU;cases hl:dL bs t with
 |none=>simp[ED]
 |some l=>
  simp only;cases hm:dL l m with
  |none=>simp[ED]
  |some c=>
   obtain⟨tn,rfl,hl2⟩:=mY hl;obtain⟨mn,rfl,hm2⟩:=mY hm;obtain⟨a,fs,ha,hf,_,hcs⟩:=g3 tn l hl2;obtain⟨me,hme,hck,h0⟩:=hcs mn c hm2;have h1:=lξ ha;have h2:=lξ hme;exact V2 hck ((Kl hv).2 a h1 me h2).1 ((hp.ac a h1).mm me h2).ns ((hp.ac a h1).mm me h2).ps
structure Hs (args:List Va)(ip:List fW):Prop where
 al:args.length<1501
 ai:∀v∈args,v.I.length<1501/\v.L.length<1501
 il:ip.length<1501
 fl:∀p∈ip,p.f.length<1501
 fw:∀p∈ip,∀v∈p.f,kg v=true->Wk v
 wr:∀p∈ip,kg p.r=true->Wk p.r
def rX:∀(l:List Va) (ks:LI),fR l ks=true->∀v∈l,kg v=true
 |[],_,_,v,hv=>by cases hv
 |w::l,[],h,v,hv=>by cases h
 |w::l,k::ks,h,v,hv=>by
  simp only[fR,qF,lγ]at h;rcases mδ.1 hv with rfl|hv
  ·exact h.1.2
  ·exact rX l ks h.2 v hv
def F2 {a:Ac}{ip:List fW}(h:uW a ip=true):∀q∈ip,fR q.f (a.fields.map Fe.kind)=true:=by
 intro q hq;unfold uW at h;match ip,h,hq with
 |q0::rs,h,hq=>
  simp only[lγ,mζ]at h;exact h.2 q hq
def ĝ {n:Nat}(hx:jg x){ls:List Va}{sg:List qr}(h:H4 x ls=some sg)(hn:14000<=n):(ct lay0.tab n 19 [(.box 0 0)] ((Ő ls).tn x |>.hpA 0) fun d116 o117=>
     dU d116 o117 fun u118=>
     ct lay0.tab n 20 [(.box 0 0),(pI (aq .i64 ((x.ns.length:Int) - 1)))] (u118.hpA 0) fun d119 o120=>
     dU d119 o120 fun u121=>
     iL (!u121.sd)
      (ct lay0.tab n 21 [(.box 0 0),(.p (.agg [(.int .i64 0),(.int .i64 0),(.str []),(.slice 1 []),(.slice 1 [])]))] (u121.hpA 0) fun d122 o123=>
      dU d122 o123 fun u124=>
      some ((.tup [(pL 18 (List.take u124.sn (List.drop 0 u124.sg))),(pI 0)]),[]))
      (some ((.tup [(pL 18 (List.take u121.sn (List.drop 0 u121.sg))),(pI 0)]),[])))=rSg (sg,0):=by
 unfold H4 at h;cases hb:H3 x (Ő ls)with
 |none=>rw[hb]at h;cases h
 |some s1=>
 rw[hb]at h;simp only at h;cases hs:Ks x (eF x) s1 ((x.ns.length:Int) - 1)with
 |none=>rw[hs]at h;cases h
 |some s2=>
 rw[hs]at h;simp only at h;have hnl:=hx.nl;have hF:eF x<=1501:=by unfold eF;omega
 rw[aa (Ge hx hb (by omega)),m5,gU (by omega) (by omega),aa (Ř hx (eF x) n (by omega) _ _ _ hs),m5];have hsg:∀s:TS,List.take (s.tn x).sn (List.drop 0 (s.tn x).sg)=s.sg.map qr.e:=fun s=>by
  show List.take s.sg.length (List.drop 0 (s.sg.map qr.e))=_;rw[List.drop_zero,lψ (by rw[lβ];omega)]
 show iL (!s2.sd) _ _=_;cases hsd:s2.sd with
 |true=>
  rw[hsd,cond_true]at h;cases h;rw[Bool.not_true,aR,hsg];rfl
 |false=>
  rw[hsd,cond_false]at h;obtain⟨s3,g1,rfl⟩:=mβ.1 h;rw[Bool.not_false,aQ];show ct lay0.tab n 21 [.box 0 0,.p v0.e] _ _=_;rw[aa (Bf g1 (by omega)),m5,hsg];rfl
def ab7 {N:Nat}(args:List Va){ips:List fW}(key:LN)(ip:LD)(lm:Int)(u1:fH)(u2:bb)(u3:ae)(u4:aA)(hr:Hs args ips)(hle:args.length<=N)(hm:1600<=m)(K:(LN)×LD×Int×Nat×fH×bb×ae×aA×LD->R):
  S_iRun_3 (ct lay0.tab m) m K (key,args.map Va.e,ip,lm,N,u1,u2,u3,u4,List.replicate N v0.e)=K (key,ip,lm,N,u1,u2,u3,u4,(args++List.replicate (N - args.length) v0).map Va.e):=by
 have ecl:=jF (m:=m) args hr.al hr.ai (by omega);unfold S_iRun_3;simp only;rw[aa ecl,iB];simp only[Nat.beq_refl,aQ,bJ,iq,aC];rw[List.drop_zero,lψ (by rw[lβ];omega)];have e2:Nat.ble (args.map Va.e).length N=true:=by rw[Nat.ble_eq,lβ];exact hle
 have e3:splice (List.replicate N v0.e) 0 (args.map Va.e)=(args++List.replicate (N - args.length) v0).map Va.e:=by
  unfold splice;rw[List.take_zero,List.nil_append,Nat.zero_add,lβ,List.drop_replicate,List.map_append,List.map_replicate]
 cases args with
 |nil=>simp only[List.map_nil,List.isEmpty_nil,aQ,List.nil_append,List.length_nil,Nat.sub_zero,List.map_replicate]
 |cons y ys=>
  rw[show List.isEmpty (List.map Va.e (y::ys))=false from rfl,aR,e2,aQ,e3]
def Ŕ {n:Nat}(p:List Ac)(hp:Tp p)(t m key:LN)(args:List Va)(ip:List fW)(lm:Int)(hr:Hs args ip){r:List qr×Int}(h:Z9 p t m key args ip lm=some r)(hn:15000<=n):
  Ω n 7 [pD p,pS t,pS m,pS key,pL 5 (args.map Va.e),pL 6 (ip.map fW.e),pI lm] []=rSg r:=by
 replace hn:=bl hn;obtain⟨n,rfl,hn⟩:=hn;obtain⟨n,rfl⟩:∃k,n=k+9008:=⟨n - 9008,by omega⟩
 apply Š (n+9008) ⟨p.map Ac.e⟩ t m key (args.map Va.e) (ip.map fW.e) lm;unfold T7;unfold Z9 at h;show ct lay0.tab (n+9008) 13 [pD p] [] _=_;cases ha:Oo p with
 |bad a b c e=>
  rw[ha]at h;simp only at h;rw[ő hp ha];simp only[bt,bJ,bk,aC,dPl,abr,abu];cases he:az e 0 with
  |true=>rw[he]at h;cases h
  |false=>
   rw[he,cond_false]at h;cases h;cases e with
   |ofNat k=>
    cases k with
    |zero=>cases he
    |succ k=>rfl
   |negSucc k=>rfl
 |good bs=>
  rw[ha]at h;simp only at h;rw[YI hp ha];have hty:=hp.ty;obtain⟨x,ex,hx⟩:=P9 (n:=n+9008) p t m hty (fun a h=>(hp.ac a h).me) (by omega);simp only[bt,bJ,bk,aC,dPl,abs,dBx,show ∀K:R,HX .i64 0 (.int .i64 0) K=K from fun _=>rfl,abt];show ct lay0.tab (n+9008) 14 [pD p,_,_] [] _=_;rw[aa ex];simp only[bt,bJ,bk,aC,abv,aF];cases hl:IX p t m with
  |none=>
   rw[hl]at h;cases h;rfl
  |some z=>
  obtain⟨ti,mi⟩:=z;rw[hl]at h;simp only at h;obtain rfl:=hx ti mi hl;rw[Option.isSome_some,Bool.not_true,aR];show cL (bA (p.map Ac.e) ti) _=_;cases hta:dL p ti with
  |none=>rw[hta]at h;cases h
  |some a=>
  rw[hta]at h;simp only at h;obtain⟨j,hj,_,e2⟩:=dV hta;have hap:a∈p:=by rw[<-e2];exact lν _
  have hac:=hp.ac a hap;rw[aO,hta,Option.map_some,bo,Z6];show cL (bA (a.methods.map Me.e) mi) _=_;cases hma:dL a.methods mi with
  |none=>rw[hma]at h;cases h
  |some me=>
  rw[hma]at h;simp only at h;obtain⟨k,hk,_,e3⟩:=dV hma;have hme:me∈a.methods:=by rw[<-e3];exact lν _
  have hmm:=hac.mm me hme;rw[aO,hma,Option.map_some,bo,Z7];show itL (lN (ct lay0.tab (n+9008)) (n+9008) _) (n+9008) (key,args.map Va.e,ip.map fW.e,lm,0,me.params.map Pa.e,(((me.params.map Pa.e).length:Nat):Int),((0:Nat):Int),cS p bs,⟨ti,mi,0⟩,a.r,me.r,((me.params.take 0).map Pa.kind).map iE)=_;rw[lβ,Ka me.params (by have:=hmm.ps;omega) _ _ _ _ _ _ _ _ _ me.params.length (n+9008) 0 (by omega) (by have:=hmm.ps;omega)];have ef:=xI (m:=n+9008) args (me.params.map Pa.kind) hr.al (by omega);rw[lβ]at ef;show ct lay0.tab (n+9008) 15 [pL 5 (args.map Va.e),.arr 0 0 me.params.length 1] [.arr ((me.params.map Pa.kind).map iE)] _=_;rw[aa ef];simp only[bk,aF,bJ,iq,aC];cases hfit:fR args (me.params.map Pa.kind)with
  |false=>rw[hfit,cond_false]at h;cases h;rfl
  |true=>
  rw[hfit,cond_true]at h;rw[Bool.not_true,aR];have ev:=TH (m:=n+9008) a ip (by have:=hac.fl;omega) hr.fl hr.il (by omega);have hcond:∀K:(LN)×LD×LD×Int×Bool×fH×bb×ae×aA->R,nT (ct lay0.tab (n+9008)) (n+9008) K (key,args.map Va.e,ip.map fW.e,lm,cS p bs,⟨ti,mi,0⟩,a.r,me.r)=K (key,args.map Va.e,ip.map fW.e,lm,aP 32 (key.length:Int)||(!uW a ip||(aP lm 0||aP 20000 lm)),cS p bs,⟨ti,mi,0⟩,a.r,me.r):=by
   intro K;unfold nT;show iL (aP 32 (key.length:Int)) _ (ct lay0.tab (n+9008) 16 [.p a.e,_] [] _)=_;rw[aa ev];simp only[bk,aF,aC];cases aP 32 (key.length:Int)<;>cases uW a ip<;>cases aP lm 0<;>rfl
  show nT (ct lay0.tab (n+9008)) (n+9008) _ (key,args.map Va.e,ip.map fW.e,lm,cS p bs,⟨ti,mi,0⟩,a.r,me.r)=_;rw[hcond];show iL (aP 32 (key.length:Int)||(!uW a ip||(aP lm 0||aP 20000 lm))) _ _=_;cases hc:aP 32 (key.length:Int)||(!uW a ip||(aP lm 0||aP 20000 lm))with
  |true=>rw[hc,cond_true]at h;cases h;rfl
  |false=>
  rw[hc,cond_false]at h;rw[aR];obtain⟨hle,h⟩:=dN h;obtain⟨sg,h1,h2⟩:=mβ.1 h;subst h2;have hlo:=ú hp ha ti mi;have el:=P8 (n:=n+9006) p bs ti mi hlo;show ct lay0.tab (n+9008) 17 [.box 0 0,pI ti,pI mi] (cS p bs).hp _=_;rw[aa el];simp only[bk,vo,aX];rw[lβ];generalize hL:(ED (cU bs ti mi)).length=N at*
  have hb:(bw 0 (N:Int)&&bw (N:Int) (N:Int)&&Nat.ble (Int.toNat (N:Int)*80) 281474976710656&&bw (N:Int) 9223372036854775807)=true:=by
   rw[lγ,lγ,lγ,bW,bW,bW,Nat.ble_eq,Int.toNat_natCast];exact⟨⟨⟨mη (by omega),mη (by omega)⟩,by omega⟩,mη (by omega)⟩
  rw[hb,aQ,Int.toNat_natCast];have hvin:uW a ip=true:=by
   cases hv:uW a ip with
   |true=>rfl
   |false=>rw[hv]at hc;simp at hc
  have hx2:jg ⟨p,bs,a,ti,mi,me.nodes,key,ip,lm⟩:=by
   refine⟨hr.fl,fun q hq v hv=>hr.fw q hq v hv ?_,hr.wr,hr.il,by have:=hmm.ns;omega,fun nd hnd=>by have:=(hmm.nx nd hnd).ks;omega⟩
   exact rX _ _ (F2 hvin q hq) v hv
  have hvs:=fun K=>ab7 (m:=n+9008) args key (ip.map fW.e) lm (cS p bs) ⟨ti,mi,0⟩ a.r me.r hr hle (by omega) K
  show S_iRun_3 (ct lay0.tab (n+9008)) (n+9008) _ (key,args.map Va.e,ip.map fW.e,lm,N,cS p bs,⟨ti,mi,0⟩,a.r,me.r,List.replicate N v0.e)=_;rw[hvs];have hln:(args++List.replicate (N - args.length) v0).length=N:=by rw[mγ,List.length_replicate];omega
  have hT:(Tn.mk a.r.Name a.r.Fields a.r.Methods ti mi 0 me.r.Nodes key (ip.map fW.e) 0 0 N 0 lm 0 0 false (cS p bs).ty (cS p bs).bn (cS p bs).bs false [] ((args++List.replicate (N - args.length) v0).map Va.e) false [] [])=(Ő (args++List.replicate (N - args.length) v0)).tn ⟨p,bs,a,ti,mi,me.nodes,key,ip,lm⟩:=by
   unfold TS.tn Ő;simp only[hln];rfl
  have ht:=ĝ (n:=n+9008) hx2 h1 (by omega);rw[<-hT]at ht;refine Eq.trans ?_ ht;show _=(ct lay0.tab (n+9008) 19 _ _ fun d116 o117=>dU d116 o117 fun u118=>ct lay0.tab (n+9008) 20 [(.box 0 0),(pI (aq .i64 ((me.nodes.length:Int) - 1)))] (u118.hpA 0) _)
  have hln2:me.r.Nodes.length=me.nodes.length:=lβ _;rw[<-hln2]
structure Dd (c:CS)(j:Nat)(x:No):Prop where
 kb:∀q∈x.kids,∃e:Nat,q=e/\e<j
 k1:x.op=1->cj c.ki (j:Int)=some x.v.k
 k2:x.op=2->∃v,cj c.va (j:Int)=some v/\cj c.ki (j:Int)=some v.kind
 k3:x.op=3->cj c.ki (j:Int)=some 3
 k4:x.op=4\/x.op=5->∃k,cj c.ki (j:Int)=some k/\k≠4/\k≠5
 k6:x.op=6->∃ks k,x.kids.map (cj c.ki)=ks.map some/\cj c.ki (j:Int)=some k/\iY x.name ks=(k,0)
 k8:x.op=8\/x.op=9->∃v q r,cj c.va (j:Int)=some v/\x.kids=q::r/\cj c.ki q=some v.kind
structure Kq (c c':CS)(b:Nat):Prop where
 ki:∀j:Nat,j<b->cj c'.ki (j:Int)=cj c.ki (j:Int)
 va:∀j:Nat,j<b->cj c'.va (j:Int)=cj c.va (j:Int)
def Kq.refl (c:CS)(b:Nat):Kq c c b:=⟨fun _ _=>rfl,fun _ _=>rfl⟩
def Kq.trans {a b c:CS}{k k':Nat}(h:Kq a b k)(g:Kq b c k')(hk:k<=k'):Kq a c k:=⟨fun j hj=>(g.ki j (by omega)).trans (h.ki j hj),fun j hj=>(g.va j (by omega)).trans (h.va j hj)⟩
variable {c':CS} {x:No}
def Dd.kq {c:CS}{b j:Nat}(h:Dd c j x)(g:Kq c c' b)(hj:j<b):Dd c' j x:=by
 have hk:∀q∈x.kids,cj c'.ki q=cj c.ki q:=fun q hq=>by
  obtain⟨e,rfl,he⟩:=h.kb q hq;exact g.ki e (by omega)
 refine⟨h.kb,fun o=>?_,fun o=>?_,fun o=>?_,fun o=>?_,fun o=>?_,fun o=>?_⟩
 ·rw[g.ki j hj];exact h.k1 o
 ·rw[g.ki j hj,g.va j hj];exact h.k2 o
 ·rw[g.ki j hj];exact h.k3 o
 ·rw[g.ki j hj];exact h.k4 o
 ·obtain⟨ks,k,h1,h2,h3⟩:=h.k6 o;exact⟨ks,k,by rw[<-h1];exact List.map_congr_left hk,by rw[g.ki j hj];exact h2,h3⟩
 ·obtain⟨v,q,r,h1,h2,h3⟩:=h.k8 o;exact⟨v,q,r,by rw[g.va j hj];exact h1,h2,by rw[hk q (by rw[h2];exact lη)];exact h3⟩
def VC (s:LN)(x y:Int):(Ds s x y).2=true->(Ds s x y).1≠4/\(Ds s x y).1≠5:=by
 unfold Ds;have z (b:Bool):((2:Int),b).2=true->((2:Int),b).1≠4/\((2:Int),b).1≠5:=fun _=>⟨show(2:Int)≠4 by decide,show(2:Int)≠5 by decide⟩
 have w (b:Bool):((1:Int),b).2=true->((1:Int),b).1≠4/\((1:Int),b).1≠5:=fun _=>⟨show(1:Int)≠4 by decide,show(1:Int)≠5 by decide⟩
 cases be s [38,38];rotate_left
 ·exact z _
 cases be s [124,124];rotate_left
 ·exact z _
 cases be s [60];rotate_left
 ·exact z _
 cases be s [60,61];rotate_left
 ·exact z _
 cases be s [62];rotate_left
 ·exact z _
 cases be s [62,61];rotate_left
 ·exact z _
 cases be s [43];rotate_left
 ·intro h;simp only[cond_true,cond_false,lγ,qα,bE,lε]at h ⊢
  omega
 cases be s [45];rotate_left
 ·exact w _
 cases be s [42];rotate_left
 ·exact w _
 cases be s [47];rotate_left
 ·exact w _
 cases be s [37];rotate_left
 ·exact w _
 exact z _
variable {ks:LI}
def ab1 {c:CS}{i k:Int}(h:SF c i x ks=some (k,c'))(h0:c'.er=0):(x.op=1->k=x.v.k)/\(x.op=3->k=3)/\(x.op=4\/x.op=5->k≠4/\k≠5)/\(x.op=6->iY x.name ks=(k,0)):=by
 unfold SF yS at h;refine⟨fun o=>?_,fun o=>?_,fun o=>?_,fun o=>?_⟩
 ·rw[o]at h;simp at h;exact h.1.symm
 ·rw[o]at h;simp at h;exact h.1.symm
 ·rcases o with o|o
  ·rw[o]at h;simp only[show ¬((4:Int)=7) by decide,show(4:Int)<=6 by decide,show ¬((4:Int)=1) by decide,show ¬((4:Int)=3) by decide,show ¬((4:Int)=2) by decide,if_true,if_false]at h;match ks,h with
   |a::r,h=>
    simp only[lα,lζ]at h;rw[<-h.1];cases be x.name [33]<;>decide
  ·rw[o]at h;simp only[show ¬((5:Int)=7) by decide,show(5:Int)<=6 by decide,show ¬((5:Int)=1) by decide,show ¬((5:Int)=3) by decide,show ¬((5:Int)=2) by decide,show ¬((5:Int)=4) by decide,if_true,if_false]at h;match ks,h with
   |a::b::r,h=>
    simp only[lα,lζ]at h;rw[<-h.2]at h0;rw[<-h.1];exact VC _ _ _ (F3 h0)
 ·rw[o]at h;simp only[show ¬((6:Int)=7) by decide,show(6:Int)<=6 by decide,show ¬((6:Int)=1) by decide,show ¬((6:Int)=3) by decide,show ¬((6:Int)=2) by decide,show ¬((6:Int)=4) by decide,show ¬((6:Int)=5) by decide,if_true,if_false,lα,lζ]at h;have he:(iY x.name ks).2=0:=by
   by_cases hz:(iY x.name ks).2=0
   ·exact hz
   ·rw[<-h.2]at h0;unfold wz at h0;rw[if_neg hz]at h0;exact absurd h0 (pi hz)
  rw[<-h.1,<-he]
def ab2 {c:CS}{i:Nat}{k:Int}(h:SF c (i:Int) x ks=some (k,c'))(h0:c'.er=0):c'.ki=c.ki/\(∀j:Int,j≠i->cj c'.va j=cj c.va j)/\(x.op=2->∃v,cj c'.va (i:Int)=some v/\k=v.kind)/\(x.op=8\/x.op=9->∃v r,cj c'.va (i:Int)=some v/\ks=v.kind::r):=by
 have hr:=aaX h h0;cases hr with
 |same h2 h8 h9=>exact⟨rfl,fun _ _=>rfl,fun o=>absurd o h2,fun o=>o.elim (fun o=>absurd o h8) (fun o=>absurd o h9)⟩
 | @var v h2 hf=>exact⟨rfl,fun j hj=>by simp only[fX,if_neg hj],fun _=>⟨v,by simp only[fX,if_true],rfl⟩,fun o=>by omega⟩
 | @lett y r h8 hks=>exact⟨rfl,fun j hj=>by simp only[fX,if_neg hj],fun o=>by omega,fun _=>⟨⟨y,c.lo.length,false⟩,r,by simp only[fX,if_true],hks⟩⟩
 | @asg v r h9 hks hf=>exact⟨rfl,fun j hj=>by simp only[fX,if_neg hj],fun o=>by omega,fun _=>⟨v,r,by simp only[fX,if_true],hks⟩⟩
def Typed (ns:List No)(c:CS)(lo hi:Nat):Prop:=∀j,lo<=j->j<hi->∀x,ns[j]?=some x->Dd c j x
def Typed.kq {ns:List No}{c c':CS}{lo hi b:Nat}(h:Typed ns c lo hi)(g:Kq c c' b)(hb:hi<=b):Typed ns c' lo hi:=fun j h1 h2 x hx=>(h j h1 h2 x hx).kq g (by omega)
def Ŧ (ns:List No)(f:Nat):Prop:=∀(lo i:Nat),To ns lo i->∀(c:CS) (d:Bool) (k:Int) (c':CS),c.ns=ns->eE f c (i:Int) d=some (k,c')->c'.er=0->Typed ns c' lo (i+1)/\Kq c c' lo/\(∀x,ns[i]?=some x->x.op<=7->cj c'.ki (i:Int)=some k)
def Xp {ns:List No}{f:Nat}(hv:Ŧ ns f):∀(l:LI) (lo hi:Nat),Ch ns lo l hi->∀(c:CS) (ks:LI) (c':CS),c.ns=ns->ep (fun c k=>eE f c k false) c l=some (ks,c')->c'.er=0->Typed ns c' lo hi/\Kq c c' lo/\(∀q∈l,∃e:Nat,q=e/\e<hi)/\
  ((∀k∈l,∀y,dL ns k=some y->y.op<=7)->l.map (cj c'.ki)=ks.map some)
 |[],lo,hi,h,c,ks,c',hc,hk,h0=>by
  cases h;simp only[ep,lα,lζ]at hk;obtain⟨rfl,rfl⟩:=hk;exact⟨fun j h1 h2=>by omega,Kq.refl _ _,fun q hq=>(by cases hq),fun _=>rfl⟩
 |_::l,lo,hi,h,c,ks,c',hc,hk,h0=>by
  cases h with
  | @cons _ q _ _ h1 h2=>
   simp only[ep]at hk;cases e1:eE f c (q:Int) false with
   |none=>rw[e1]at hk;cases hk
   |some r1=>
    obtain⟨y,c1⟩:=r1;rw[e1]at hk;simp only at hk;cases e2:ep (fun c k=>eE f c k false) c1 l with
    |none=>rw[e2]at hk;cases hk
    |some r2=>
     obtain⟨ys,c2⟩:=r2;rw[e2]at hk;simp only[lα,lζ]at hk;obtain⟨rfl,rfl⟩:=hk;have z1:c1.er=0:=xl (fun c k r e=>uX f c k false r e) l c1 e2 h0;have s1:=eT f c q false _ e1;obtain⟨a1,a2,a3⟩:=hv lo q h1 c false y c1 hc e1 z1;obtain⟨b1,b2,b3,b4⟩:=Xp hv l (q+1) hi h2 c1 ys c2 (s1.ns.trans hc) e2 h0;have l1:=h1.le;have l2:=h2.le;refine⟨fun j h3 h4 x hx=>?_,a2.trans b2 (by omega),fun z hz=>?_,fun ho=>?_⟩
     ·by_cases hj:j<q+1
      ·exact(a1 j h3 hj x hx).kq b2 hj
      ·exact b1 j (by omega) h4 x hx
     ·rcases mδ.1 hz with rfl|hz
      ·exact⟨q,rfl,by omega⟩
      ·exact b3 z hz
     ·simp only[List.map_cons];rw[b4 fun k hk=>ho k (lρ _ hk),b2.ki q (by omega)];have hq:q<ns.length:=h1.lt;rw[a3 ns[q] (lδ hq) (ho q lη _ (aU hq))]
def į {ns:List No}{f:Nat}(hv:Ŧ ns f):∀(l:LI) (lo hi:Nat),Ch ns lo l hi->∀(c:CS) (d:Bool) (c':CS),c.ns=ns->lz (eE f) c l d=some c'->c'.er=0->Typed ns c' lo hi/\Kq c c' lo/\(∀q∈l,∃e:Nat,q=e/\e<hi)
 |[],lo,hi,h,c,d,c',hc,hk,h0=>by
  cases h;simp only[lz,lα]at hk;subst hk;exact⟨fun j h1 h2=>by omega,Kq.refl _ _,fun q hq=>by cases hq⟩
 |_::l,lo,hi,h,c,d,c',hc,hk,h0=>by
  cases h with
  | @cons _ q _ _ h1 h2=>
   simp only[lz]at hk;cases e1:eE f c (q:Int) d with
   |none=>rw[e1]at hk;cases hk
   |some r1=>
    obtain⟨y,c1⟩:=r1;rw[e1]at hk;simp only at hk;have z1:c1.er=0:=Du (fun c k d r e=>uX f c k d r e) l c1 _ hk h0;have s1:=eT f c q d _ e1;obtain⟨a1,a2,_⟩:=hv lo q h1 c d y c1 hc e1 z1;obtain⟨b1,b2,b3⟩:=į hv l (q+1) hi h2 c1 _ c' (s1.ns.trans hc) hk h0;have l1:=h1.le;have l2:=h2.le;refine⟨fun j h3 h4 x hx=>?_,a2.trans b2 (by omega),fun z hz=>?_⟩
    ·by_cases hj:j<q+1
     ·exact(a1 j h3 hj x hx).kq b2 hj
     ·exact b1 j (by omega) h4 x hx
    ·rcases mδ.1 hz with rfl|hz
     ·exact⟨q,rfl,by omega⟩
     ·exact b3 z hz
def Yy {ns:List No}(hb:∀x∈ns,x.op=6\/x.op=8\/x.op=9->∀k∈x.kids,∀y,dL ns k=some y->y.op<=7):∀f,Ŧ ns f
 |0,lo,i,hs,c,d,k,c',hc,h,h0=>by simp[eE]at h
 |f+1,lo,i,hs,c,d,k,c',hc,h,h0=>by
  have hle:=hs.le;cases hs with
  | @mk _ _ x hx hch=>
   have hx':dL c.ns (i:Int)=some x:=by rw[hc,cd];exact hx
   have hxm:x∈ns:=lξ hx;simp only[eE,hx']at h;by_cases h18:x.op=18
   ·rw[if_pos h18]at h;unfold lA at h;cases e1:lz (eE f) c x.kids false with
    |none=>rw[e1]at h;cases h
    |some c1=>
     rw[e1]at h;simp only[lα,lζ]at h;have hfin:c'={c1 with sc:=c.sc}:=by
      rw[<-h.2];split
      ·rename_i he;rw[<-h.2,if_pos he]at h0;exact dO h0
      ·rfl
     have z1:c1.er=0:=by rw[hfin]at h0;exact h0
     obtain⟨a1,a2,a3⟩:=į (Yy hb f) x.kids lo i hch c false c1 hc e1 z1;have kk:∀b,Kq c1 c' b:=fun b=>by rw[hfin];exact⟨fun _ _=>rfl,fun _ _=>rfl⟩
     refine⟨fun j h3 h4 y hy=>?_,a2.trans (kk lo) (Nat.le_refl _),fun y hy ho=>?_⟩
     ·by_cases hj:j<i
      ·exact(a1 j h3 hj y hy).kq (kk i) hj
      ·obtain rfl:j=i:=by omega
       rw[hx]at hy;obtain rfl:=Option.some.inj hy;exact⟨a3,fun o=>by omega,fun o=>by omega,fun o=>by omega,fun o=>by omega,fun o=>by omega,fun o=>by omega⟩
     ·rw[hx]at hy;obtain rfl:=Option.some.inj hy;omega
   ·rw[if_neg h18]at h;cases e1:ep (fun c k=>eE f c k false) c x.kids with
    |none=>rw[e1]at h;cases h
    |some r1=>
     obtain⟨ks,c1⟩:=r1;rw[e1]at h;simp only at h;by_cases z1:c1.er=0
     ·rw[if_pos z1]at h;cases e2:SF c1 (i:Int) x ks with
      |none=>rw[e2]at h;cases h
      |some r2=>
       obtain⟨k2,c2⟩:=r2;rw[e2]at h;simp only[lα,lζ]at h;obtain⟨rfl,rfl⟩:=h;rw[PB]at h0;rw[dO h0];have z2:=nk h0;obtain⟨a1,a2,a3,a4⟩:=Xp (Yy hb f) x.kids lo i hch c ks c1 hc e1 z1;obtain⟨d1,d2,d3,d4⟩:=ab1 e2 z2;obtain⟨v1,v2,v3,v4⟩:=ab2 e2 z2;obtain⟨n1,_⟩:=CB c2 (i:Int) x k2;have kk:Kq c1 (eP c2 (i:Int) x k2) i:=⟨fun j hj=>by rw[sw,if_neg (by omega),v1],fun j hj=>by rw[n1];exact v2 _ (by omega)⟩
       have ki:x.op<=7->cj (eP c2 (i:Int) x k2).ki (i:Int)=some k2:=fun ho=>by rw[sw,if_pos ⟨ho,rfl⟩]
       refine⟨fun j h3 h4 y hy=>?_,a2.trans kk hch.le,fun y hy ho=>?_⟩
       ·by_cases hj:j<i
        ·exact(a1 j h3 hj y hy).kq kk hj
        ·obtain rfl:j=i:=by omega
         rw[hx]at hy;obtain rfl:=Option.some.inj hy;have hkid:x.op=6\/x.op=8\/x.op=9->x.kids.map (cj (eP c2 (j:Int) x k2).ki)=ks.map some:=fun ho=>by
          rw[<-a4 (hb x hxm ho)];exact List.map_congr_left fun q hq=>by
           obtain⟨e,rfl,he⟩:=a3 q hq;exact kk.ki e he
         refine⟨a3,fun o=>?_,fun o=>?_,fun o=>?_,fun o=>?_,fun o=>?_,fun o=>?_⟩
         ·rw[ki (by omega),d1 o]
         ·obtain⟨v,g1,g2⟩:=v3 o;exact⟨v,by rw[n1];exact g1,by rw[ki (by omega),g2]⟩
         ·rw[ki (by omega),d2 o]
         ·exact⟨k2,ki (by omega),d3 o⟩
         ·exact⟨ks,k2,hkid (.inl o),ki (by omega),d4 o⟩
         ·obtain⟨v,r,g1,g2⟩:=v4 o;have hk:=hkid (.inr o);rw[g2]at hk;cases hkk:x.kids with
          |nil=>rw[hkk]at hk;cases hk
          |cons q t=>
           rw[hkk]at hk;simp only[List.map_cons,lτ]at hk;exact⟨v,q,t,by rw[n1];exact g1,rfl,hk.1⟩
       ·rw[hx]at hy;obtain rfl:=Option.some.inj hy;exact ki ho
     ·rw[if_neg z1]at h;simp only[lα,lζ]at h;rw[<-h.2]at h0;exact absurd h0 z1
def Z3 {f:Nat}{pr:List Ac}{fs:List (LN×Vr)}{m:Me}{c:CS}(h:eX f pr fs m=some (some c))(h0:c.er=0)(ht:∃k:Nat,To m.nodes 0 k/\k+1=m.nodes.length)(hb:∀x∈m.nodes,x.op=6\/x.op=8\/x.op=9->∀k∈x.kids,∀y,dL m.nodes k=some y->y.op<=7):Typed m.nodes c 0 m.nodes.length:=by
 unfold eX at h;cases hp:mc (CS.init pr fs m) m.params with
 |none=>rw[hp]at h;cases h
 |some o=>
  cases o with
  |none=>rw[hp]at h;cases h
  |some c1=>
   rw[hp]at h;simp only at h;obtain⟨k,hs,hk⟩:=ht;have he:((m.nodes.length:Int) - 1)=(k:Int):=by omega
   rw[he]at h;cases hv:eE f c1 (k:Int) false with
   |none=>rw[hv]at h;cases h
   |some r=>
    obtain⟨y,c2⟩:=r;rw[hv]at h;simp only[lα]at h;subst h;have hst:=j5 _ _ hp;rw[<-hk];exact(Yy hb f 0 k hs c1 false y c2 hst.ns hv h0).1
def F1 {v:Va}(h:kg v=true)(hn:ji v.n)(hi:∀x∈v.I,ji x):Wk v:=by
 unfold kg HJ vn cT at h;simp only[lγ,Bool.not_eq_true',qβ,dJ,bE,lμ,mζ,Bool.and_eq_false_iff,Bool.not_eq_false',lε]at h;obtain⟨_,_,⟨a1,a2,a3⟩,⟨b1,b2,b3⟩,d⟩:=h;have z:∀{α:Type} (l:List α),¬(0<(l.length:Int))->l=[]:=fun l h=>lθ (by omega)
 refine⟨hn,hi,by omega,by omega,by omega,fun t ht=>?_,fun hk=>?_,fun hk=>?_,fun hk=>?_⟩
 ·have:=d t ht;omega
 ·exact z _ (a3.elim id fun h=>by omega)
 ·exact z _ (a2.elim id fun h=>by omega)
 ·rcases a1 with a1|a1
  ·rw[la,lε]at a1;exact a1
  ·omega
def PZ {n:Int}(h:ji n):Wk (W9 n):=⟨h,(fun x hx=>by cases hx),by simp[W9],by simp[W9],by simp[W9],(fun x hx=>by cases hx),fun _=>rfl,fun _=>rfl,fun _=>rfl⟩
def Ak (b:Bool):Wk (Rp b):=⟨by cases b<;>(unfold Rp ji;simp),(fun x hx=>by cases hx),by simp[Rp],by simp[Rp],by simp[Rp],(fun x hx=>by cases hx),fun _=>rfl,fun _=>rfl,fun _=>rfl⟩
def kf:Wk v0:=⟨Tl,(fun x hx=>by cases hx),by simp[v0],by simp[v0],by simp[v0],(fun x hx=>by cases hx),fun _=>rfl,fun _=>rfl,fun _=>rfl⟩
def P0 {s:LN}(h:s.length<=64):Wk ⟨3,0,s,[],[]⟩:=⟨Tl,(fun x hx=>by cases hx),h,by simp,by simp,(fun x hx=>by cases hx),fun _=>rfl,fun _=>rfl,fun h=>absurd rfl h⟩
def abh (o:LN)(v:Va):Wk (S_ o v).1:=by
 unfold S_;cases be o [33]
 ·exact PZ (Ī _ _ Tl)
 ·exact Ak _
variable {a:Va}
def abg (o:LN){b:Va}(ha:Wk a)(hb:Wk b):Wk (Ż o a b).1:=by
 unfold Ż;cases be o [61,61];rotate_left
 ·exact Ak _
 cases be o [33,61];rotate_left
 ·exact Ak _
 cases be o [60];rotate_left
 ·exact Ak _
 cases be o [60,61];rotate_left
 ·exact Ak _
 cases be o [62];rotate_left
 ·exact Ak _
 cases be o [62,61];rotate_left
 ·exact Ak _
 cases h:be o [43]&&az a.k 3
 ·exact PZ (Ī _ _ ha.n)
 ·simp only[cond_true,cond_false];cases h6:aP 64 (a.s.length+b.s.length:Nat)
  ·rw[dJ,lμ]at h6;exact P0 (by rw[mγ];omega)
  ·exact kf
def Lk (k:Int)(v:Va):Prop:=k=4\/k=5->v.k≠3
def KV2:LI->List Va->Prop
 |[],[]=>True
 |k::l,v::r=>Lk k v/\KV2 l r
 |_,_=>False
def KV2.len:∀{l:LI} {r:List Va},KV2 l r->l.length=r.length
 |[],[],_=>rfl
 |_::l,_::r,h=>by simp[KV2.len h.2]
 |[],_::_,h=>h.elim
 |_::_,[],h=>h.elim
def pX {k:Int}{v:Va}(h:¬(k=4\/k=5)):Lk k v:=fun g=>absurd g h
def Xi {n:Int}(h:ji n):(za n).length<=64:=by
 unfold za;rw[lβ];have:=Lib.itoa_length_le n h.1 h.2;omega
def okB (k:Int)(o:Option (Va×Int)):Prop:=∃r,o=some r/\Wk r.1/\(r.2=0->Lk k r.1)
def Nn (ha:Wk a)(hk:a.k≠3):(a.k=4->Ga a=a.I.length)/\(a.k≠4->Ga a=a.L.length):=by
 have hs:=ha.k3 hk;refine⟨fun h=>?_,fun h=>?_⟩
 ·unfold Ga;rw[hs,ha.k4 h];simp
 ·unfold Ga;rw[hs,ha.kn h];simp
def ű {b:Va}{k:Int}(ha:Wk a)(hb:Wk b)(hk:a.k≠3):okB k (bif az (Ga a:Nat) 16 then some (v0,5)else bif az a.k 4 then some (⟨a.k,a.n,a.s,a.I++[b.n],a.L⟩,0)else some (⟨a.k,a.n,a.s,a.I,a.L++[b.s]⟩,0)):=by
 obtain⟨s1,s2⟩:=Nn ha hk;cases h16:az (Ga a:Nat) 16
 ·rw[bE,lμ]at h16;have hI:=ha.I;have hL:=ha.L;cases h4:az a.k 4
  ·rw[bE,lμ]at h4;have:=s2 h4;refine⟨_,rfl,⟨ha.n,ha.i,ha.s,ha.I,by rw[mγ,List.length_singleton];omega,fun t ht=>?_,fun h=>absurd h h4,ha.kn,ha.k3⟩,fun _ _=>hk⟩
   rcases mσ.1 ht with h|h
   ·exact ha.e t h
   ·rw[List.mem_singleton.1 h];exact hb.s
  ·rw[bE,lε]at h4;have:=s1 h4;refine⟨_,rfl,⟨ha.n,fun x hx=>?_,ha.s,by rw[mγ,List.length_singleton];omega,ha.L,ha.e,ha.k4,fun h=>absurd h4 h,ha.k3⟩,fun _ _=>hk⟩
   rcases mσ.1 hx with h|h
   ·exact ha.i x h
   ·rw[List.mem_singleton.1 h];exact hb.n
 ·exact⟨_,rfl,kf,fun h=>by cases h⟩
def m9 {P:α->Prop}{l:List α}{i:Nat}{y:α}(h:∀x∈l,P x)(hy:P y):∀x∈l.set i y,P x:=fun x hx=>by
 rcases List.mem_or_eq_of_mem_set hx with h1|h1
 ·exact h x h1
 ·rw[h1];exact hy
def sR {l:List Sg}{k:Int}(h:SX ks (some l)=(k,0)):∃g∈l,g.1=ks/\g.2=k:=by
 unfold SX at h;simp only at h;cases hf:l.find? fun g=>decide (g.1=ks)with
 |none=>rw[hf]at h;cases h
 |some g=>
  rw[hf]at h;simp only[lζ,and_true]at h;exact⟨g,List.mem_of_find?_eq_some hf,by simpa using List.find?_some hf,h⟩
def aah {b:Va}(ha:Wk a)(hb:Wk b)(hk:a.k≠3)(r2:List Va){k:Int}(hkl:¬(k=4\/k=5)):okB k (Z_ [97,116] (a::b::r2)):=by
 obtain⟨s1,s2⟩:=Nn ha hk;show okB k (bif aP b.n 0 then some (v0,20)else bif bw (Ga a:Nat) b.n then some (v0,20)else bif az a.k 4 then a.I[b.n.toNat]?.map (fun x=>(W9 x,0))else a.L[b.n.toNat]?.map (fun t=>(⟨3,0,t,[],[]⟩,0)));cases h1:aP b.n 0;rotate_left
 ·exact⟨_,rfl,kf,fun h=>by cases h⟩
 cases h2:bw (Ga a:Nat) b.n;rotate_left
 ·exact⟨_,rfl,kf,fun h=>by cases h⟩
 rw[dJ,lμ]at h1;rw[bW,lμ]at h2;cases h4:az a.k 4
 ·rw[bE,lμ]at h4;have:=s2 h4;have hi:b.n.toNat<a.L.length:=by omega
  rw[cond_false,cond_false,cond_false,lδ hi];exact⟨_,rfl,P0 (ha.e _ (lν _)),fun _=>pX hkl⟩
 ·rw[bE,lε]at h4;have:=s1 h4;have hi:b.n.toNat<a.I.length:=by omega
  rw[cond_false,cond_false,cond_true,lδ hi];exact⟨_,rfl,PZ (ha.i _ (lν _)),fun _=>pX hkl⟩
def H_ {b c:Va}(ha:Wk a)(hb:Wk b)(hc:Wk c)(hk:a.k≠3)(r2:List Va)(k:Int):okB k (Z_ [115,101,116] (a::b::c::r2)):=by
 obtain⟨s1,s2⟩:=Nn ha hk;show okB k (bif aP b.n 0 then some (v0,20)else bif bw (Ga a:Nat) b.n then some (v0,20)else bif az a.k 4 then a.I[b.n.toNat]?.map (fun _=>(⟨a.k,a.n,a.s,a.I.set b.n.toNat c.n,a.L⟩,0))else a.L[b.n.toNat]?.map (fun _=>(⟨a.k,a.n,a.s,a.I,a.L.set b.n.toNat c.s⟩,0)));cases h1:aP b.n 0;rotate_left
 ·exact⟨_,rfl,kf,fun h=>by cases h⟩
 cases h2:bw (Ga a:Nat) b.n;rotate_left
 ·exact⟨_,rfl,kf,fun h=>by cases h⟩
 rw[dJ,lμ]at h1;rw[bW,lμ]at h2;cases h4:az a.k 4
 ·rw[bE,lμ]at h4;have:=s2 h4;have hi:b.n.toNat<a.L.length:=by omega
  rw[cond_false,cond_false,cond_false,lδ hi];exact⟨_,rfl,⟨ha.n,ha.i,ha.s,ha.I,by rw[List.length_set];exact ha.L,m9 ha.e hc.s,fun h=>absurd h h4,ha.kn,ha.k3⟩,fun _ _=>hk⟩
 ·rw[bE,lε]at h4;have:=s1 h4;have hi:b.n.toNat<a.I.length:=by omega
  rw[cond_false,cond_false,cond_true,lδ hi];exact⟨_,rfl,⟨ha.n,m9 ha.i hc.n,ha.s,by rw[List.length_set];exact ha.I,ha.L,ha.e,ha.k4,fun h=>absurd h4 h,ha.k3⟩,fun _ _=>hk⟩
def aam {o:LN}{k:Int}{l:List Va}(h:iY o ks=(k,0))(hk:KV2 ks l)(hw:∀v∈l,Wk v)(hl:l.length<=16):okB k (Z_ o l):=by
 by_cases h1:o=[105,110,116,115]
 ·subst h1;have e:(iY [105,110,116,115] ks).1=4:=rfl;refine⟨(⟨4,0,[],l.map Va.n,[]⟩,0),rfl,⟨Tl,fun x hx=>?_,by simp,by simp;omega,by simp,(fun x hx=>by cases hx),fun _=>rfl,fun h=>absurd rfl h,fun _=>rfl⟩,fun _ _=>show(4:Int)≠3 by decide⟩
  obtain⟨v,hv,rfl⟩:=List.mem_map.1 hx;exact(hw v hv).n
 by_cases h2:o=[115,116,114,105,110,103,115]
 ·subst h2;refine⟨(⟨5,0,[],[],l.map Va.s⟩,0),rfl,⟨Tl,(fun x hx=>by cases hx),by simp,by simp,by simp;omega,fun x hx=>?_,fun h=>absurd h (show(5:Int)≠4 by decide),fun _=>rfl,fun _=>rfl⟩,fun _ _=>show(5:Int)≠3 by decide⟩
  obtain⟨v,hv,rfl⟩:=List.mem_map.1 hx;exact(hw v hv).s
 have e1:be o [105,110,116,115]=false:=by rw[la];exact mε h1
 have e2:be o [115,116,114,105,110,103,115]=false:=by rw[la];exact mε h2
 unfold iY at h;rw[e1,e2,cond_false,cond_false]at h;by_cases h3:o=[108,101,110]
 ·subst h3;obtain⟨g,hg,g1,g2⟩:=sR (l:=[([3],1),([4],1),([5],1)]) h;have hk1:ks.length=1/\k=1:=by
   simp only[mδ,List.not_mem_nil,or_false]at hg;rcases hg with rfl|rfl|rfl<;>exact⟨by rw[<-g1];rfl,g2.symm⟩
  match l,hk.len,hk1.1 with
  |a::t,_,_=>
   have ha:=hw a lη;have:=ha.s;have:=ha.I;have:=ha.L;exact⟨(W9 (Ga a:Nat),0),rfl,PZ (by unfold ji Ga;omega),fun _=>pX (by omega)⟩
  |[],e1,e2=>rw[e2]at e1;cases e1
 by_cases h4:o=[115,116,114]
 ·subst h4;obtain⟨g,hg,g1,g2⟩:=sR (l:=[([1],3)]) h;simp only[mδ,List.not_mem_nil,or_false]at hg;subst hg;have hlen:=hk.len;rw[<-g1]at hlen;match l,hlen with
  |a::t,_=>
   exact⟨(⟨3,0,za a.n,[],[]⟩,0),rfl,P0 (Xi (hw a lη).n),fun _=>pX (by rw[<-g2];decide)⟩
 by_cases h5:o=[97,112,112,101,110,100]
 ·subst h5;obtain⟨g,hg,g1,g2⟩:=sR (l:=[([4,1],4),([5,3],5)]) h;simp only[mδ,List.not_mem_nil,or_false]at hg;have hks:∃p q,ks=[p,q]/\(p=4\/p=5):=by rcases hg with rfl|rfl<;>exact⟨_,_,g1.symm,by decide⟩
  obtain⟨p,q,rfl,hp⟩:=hks;match l,hk,hw with
  |[a,b],hk,hw=>exact ű (hw a lη) (hw b (lρ _ lη)) (hk.1 hp)
  |a::b::c::t,hk,_=>exact hk.2.2.elim
 by_cases h6:o=[97,116]
 ·subst h6;obtain⟨g,hg,g1,g2⟩:=sR (l:=[([4,1],1),([5,1],3)]) h;simp only[mδ,List.not_mem_nil,or_false]at hg;have hks:∃p q,ks=[p,q]/\(p=4\/p=5)/\¬(k=4\/k=5):=by rcases hg with rfl|rfl<;>exact⟨_,_,g1.symm,by decide,by rw[<-g2];decide⟩
  obtain⟨p,q,rfl,hp,hkk⟩:=hks;match l,hk,hw with
  |a::b::t,hk,hw=>exact aah (hw a lη) (hw b (lρ _ lη)) (hk.1 hp) t hkk
 by_cases h7:o=[115,101,116]
 ·subst h7;obtain⟨g,hg,g1,g2⟩:=sR (l:=[([4,1,1],4),([5,1,3],5)]) h;simp only[mδ,List.not_mem_nil,or_false]at hg;have hks:∃p q s,ks=[p,q,s]/\(p=4\/p=5):=by rcases hg with rfl|rfl<;>exact⟨_,_,_,g1.symm,by decide⟩
  obtain⟨p,q,s,rfl,hp⟩:=hks;match l,hk,hw with
  |a::b::c::t,hk,hw=>exact H_ (hw a lη) (hw b (lρ _ lη)) (hw c (lρ _ (lρ _ lη))) (hk.1 hp) t k
 ·exfalso;unfold P_ at h;have f:∀{t:LN},o≠t->be o t=false:=fun hne=>by rw[la];exact mε hne
  rw[f h3,f h6,f h5,f h7,f h4]at h;cases h
structure acG (g:qr):Prop where
 v:g.v.I.length<1501/\g.v.L.length<1501
 al:g.ar.length<1501
 av:∀v∈g.ar,v.I.length<1501/\v.L.length<1501
 fl:g.fs.length<1501
 fv:∀v∈g.fs,v.I.length<1501/\v.L.length<1501
 el:g.ef.length<1501
def acm {v:Va}(h:Wk v):v.I.length<1501/\v.L.length<1501:=⟨by have:=h.I;omega,by have:=h.L;omega⟩
structure AC (x:dR)(c:CS):Prop where
 body:cU x.bs x.ti x.mi=some c
 ty:Typed x.ns c 0 x.ns.length
 kv:∀n∈x.ns,eu x.ns n=true/\pQ n=true
 cn:∀n∈x.ns,ji n.v.n
 sl:∀n v,cj c.va n=some v->(v.field=true/\∃f,dL x.a.fields v.slot=some f/\f.kind=v.kind)\/(v.field=false/\∃pa,dL c.lo v.slot=some pa/\pa.kind=v.kind)
 ky:x.ky.length<=64
 il:x.ip.length<=12
 ff:∀p∈x.ip,fR p.f (x.a.fields.map Fe.kind)=true
 fw:∀p∈x.ip,∀v∈p.f,Wk v
 ir:∀p∈x.ip,kg p.r=true->Wk p.r
 fz:∀p∈x.ip,p.f.length<1501
 lm:0<=x.lm/\x.lm<=300
structure Rn (x:dR)(c:CS)(s:TS):Prop where
 sd:s.sd=false
 n1:1<=s.nx
 n2:s.nx<=x.ip.length
 fl:KV2 (x.a.fields.map Fe.kind) s.fs
 fw:∀v∈s.fs,Wk v
 ll:KV2 (c.lo.map Pa.kind) s.ls
 lw:∀v∈s.ls,Wk v
 es:s.es.length<=16
 r1:0<=s.rd
 r2:s.rd<=x.lm
 sg:s.sg.length+1=s.nx
 so:∀g∈s.sg,g.k=2/\g.er=0
 fb:s.fb=false
 eb:s.eb=false
 fz:s.fs.length<1501
 sz:∀g∈s.sg,acG g
structure Gd (x:dR)(sg:List qr):Prop where
 l1:1<=sg.length
 l2:sg.length<=x.ip.length
 ok:∀i g,sg[i]?=some g->(i+1<sg.length->g.k=2)/\(g.k=3->(∃p,x.ip[i]?=some p/\g.fs=p.f)/\g.ef=[]/\g.er≠0)/\(g.k≠3->g.er=0)
 sz:∀g∈sg,acG g
structure Sp (x:dR)(s:TS):Prop where
 sd:s.sd=true
 gd:Gd x s.sg
variable {x:dR}
def D1 {l:List qr}{g:qr}(hl:l.length+1<=x.ip.length)(so:∀g∈l,g.k=2/\g.er=0)(sz:∀g∈l,acG g)(hz:acG g)(hg:(g.k=3->(∃p,x.ip[l.length]?=some p/\g.fs=p.f)/\g.ef=[]/\g.er≠0)/\(g.k≠3->g.er=0)):Gd x (l++[g]):=by
 refine⟨by simp,by simpa using hl,fun i h hi=>?_,fun y hy=>by
  rcases mσ.1 hy with hy|hy
  ·exact sz y hy
  ·rw[List.mem_singleton.1 hy];exact hz⟩
 rcases mα i l.length with h1|h1
 ·rw[lι h1]at hi;obtain⟨a,b⟩:=so h (lξ hi);exact⟨fun _=>a,fun e=>by omega,fun _=>b⟩
 ·rw[lυ h1]at hi;have h2:i - l.length=0:=by
   rcases Nat.eq_zero_or_pos (i - l.length)with h2|h2
   ·exact h2
   ·rw[lπ (by simp only[List.length_singleton];omega)]at hi;cases hi
  rw[h2]at hi;obtain rfl:=Option.some.inj hi;obtain rfl:i=l.length:=by omega
  exact⟨fun h3=>by simp at h3,hg⟩
def Ny {c:CS}(hp:AC x c){s:TS}(h:Rn x c s){e:Int}(he:e≠0):∃s',pU x s e=some s'/\Sp x s':=by
 have hil:=hp.il;have h1:=h.n1;have h2:=h.n2;have h3:=h.sg;have hi:s.nx - 1<x.ip.length:=by omega
 refine⟨_,by unfold pU;rw[qJ ⟨h1,by unfold cr;omega,by omega⟩,lδ hi];rfl,rfl,?_⟩
 have hmem:x.ip[s.nx - 1]∈x.ip:=lν _;exact D1 (by omega) h.so h.sz ⟨acm kf,by simp,(fun v hv=>by cases hv),hp.fz _ hmem,fun v hv=>acm (hp.fw _ hmem v hv),by simp⟩ ⟨fun _=>⟨⟨_,by rw[show s.sg.length=s.nx - 1 by omega,lδ hi],rfl⟩,rfl,he⟩,fun h=>absurd rfl h⟩
def KV2.get:∀{ks:LI} {l:List Va},KV2 ks l->∀{j:Nat} {k:Int},ks[j]?=some k->∃v,l[j]?=some v/\Lk k v
 |[],_,_,j,k,h=>by simp at h
 |k0::ks,v::l,h,0,k,hk=>by
  simp only[List.getElem?_cons_zero,lα]at hk;subst hk;exact⟨v,rfl,h.1⟩
 |k0::ks,v::l,h,j+1,k,hk=>by
  simp only[List.getElem?_cons_succ]at hk ⊢
  exact h.2.get hk
 |_::_,[],h,_,_,_=>h.elim
def KV2.set:∀{ks:LI} {l:List Va},KV2 ks l->∀{j:Nat} {k:Int} {w:Va},ks[j]?=some k->Lk k w->KV2 ks (l.set j w)
 |[],_,_,j,k,_,h,_=>by simp at h
 |k0::ks,v::l,h,0,k,w,hk,hw=>by
  simp only[List.getElem?_cons_zero,lα]at hk;subst hk;exact⟨hw,h.2⟩
 |k0::ks,v::l,h,j+1,k,w,hk,hw=>by
  simp only[List.getElem?_cons_succ]at hk;exact⟨h.1,h.2.set hk hw⟩
 |_::_,[],h,_,_,_,_,_=>h.elim
def w7 {β:Type}{f:α->β}{l:List α}{i:Int}{a:α}(h:dL l i=some a):∃j:Nat,i=j/\(l.map f)[j]?=some (f a):=by
 obtain⟨j,h1,h2⟩:=mY h;exact⟨j,h1,by rw[lσ,h2];rfl⟩
def Rs (x:dR)(c:CS)(s:TS)(k:Int->Prop)(v:Va)(s':TS):Prop:=(s'=s/\∀q,k q->Lk q v)\/Sp x s'
def Xw {x:dR}{c:CS}{ev:TS->Int->Option (Va×TS)}{s:TS}(hs:s.sd=false):∀(l:LI),(∀q∈l,∃v s',ev s q=some (v,s')/\Wk v/\Rs x c s (fun k=>cj c.ki q=some k) v s')->
  ∀acc,∃r s',lS ev s l acc=some (r,s')/\((s'=s/\∃t,r=acc++t/\t.length=l.length/\(∀v∈t,Wk v)/\∀ks,l.map (cj c.ki)=ks.map some->KV2 ks t)\/Sp x s')
 |[],_,acc=>⟨acc,s,rfl,.inl ⟨rfl,[],by simp,rfl,(fun v hv=>by cases hv),fun ks h=>by cases ks with|nil=>trivial|cons _ _=>cases h⟩⟩
 |q::l,h,acc=>by
  obtain⟨v,s1,e1,wv,g⟩:=h q lη;simp only[lS,e1];rcases g with⟨rfl,g⟩|g
  ·rw[hs,cond_false];obtain⟨r,s',e2,g2⟩:=Xw hs l (fun q' hq=>h q' (lρ _ hq)) (acc++[v]);refine⟨r,s',e2,?_⟩;rcases g2 with⟨rfl,t,h1,h2,h3,h4⟩|g2
   ·refine .inl ⟨rfl,v::t,by rw[h1];simp,by simp[h2],fun w hw=>?_,fun ks hks=>?_⟩
    ·rcases mδ.1 hw with rfl|hw
     ·exact wv
     ·exact h3 w hw
    ·cases ks with
     |nil=>cases hks
     |cons k ks=>
      simp only[List.map_cons,lτ]at hks;exact⟨g k hks.1,h4 ks hks.2⟩
   ·exact .inr g2
  ·rw[g.sd,cond_true];exact⟨[],s1,rfl,.inr g⟩
def f8 {x:No}{a b:Int}(h:eN x a b=true):a<=(x.kids.length:Int)/\(x.kids.length:Int)<=b:=by
 unfold eN at h;simpa[bW]using h
def pc {c:CS}(hp:AC x c){i:Nat}{n:No}(hn:x.ns[i]?=some n){f:Int->Bool}(h:dq x.ns n 0 f=true):∀q∈n.kids,∃(e:Nat) (y:No),q=e/\e<i/\x.ns[e]?=some y/\f y.op=true:=by
 intro q hq;have hi:i<x.ns.length:=Cj hn;obtain⟨e,rfl,he⟩:=(hp.ty i (Nat.zero_le _) hi n hn).kb q hq;unfold dq at h;rw[List.drop_zero,mζ]at h;have:=h _ hq;unfold iT at this;rw[cd,lδ (by omega)]at this;exact⟨e,x.ns[e],rfl,he,lδ (by omega),this⟩
def aao {c:CS}(hp:AC x c){s:TS}(h:Rn x c s){v:Va}{e:Int}(hv:Wk v)(k:Int->Prop)(hk:e=0->∀q,k q->Lk q v):∃w s',RP x s v e=some (w,s')/\Wk w/\Rs x c s k w s':=by
 unfold RP;by_cases he:e=0
 ·subst he;exact⟨v,s,rfl,hv,.inl ⟨rfl,hk rfl⟩⟩
 ·obtain⟨s',h1,h2⟩:=Ny hp h he;rw[bE,mε he,cond_false,h1];exact⟨v0,s',rfl,kf,.inr h2⟩
def WT {o:Int}(h:fi o=true):o=1\/o=2\/o=3\/o=4\/o=5\/o=6:=by
 unfold fi at h;rw[lγ,bW,bW,lε,lε]at h;omega
def V6 {n:No}(ho:n.op=1)(h:pQ n=true)(hn:ji n.v.n):Wk n.v/\¬(n.v.k=4\/n.v.k=5):=by
 unfold pQ V7 at h;rw[ho]at h;have h:(bif be n.name []then(bif kg n.v then(bif az n.v.k 1 then bif bw 0 n.v.n then true else bif az n.v.k 2 then true else az n.v.k 3 else bif az n.v.k 2 then true else az n.v.k 3)else false)else false)=true:=h;have hv:kg n.v=true:=by
  cases hv:kg n.v with
  |true=>rfl
  |false=>rw[hv]at h;cases hq:be n.name []<;>rw[hq]at h<;>simp at h
 have hk:n.v.k=1\/n.v.k=2\/n.v.k=3:=by
  rw[hv,bE,bE,bE]at h;by_cases h1:n.v.k=1
  ·exact .inl h1
  by_cases h2:n.v.k=2
  ·exact .inr (.inl h2)
  by_cases h3:n.v.k=3
  ·exact .inr (.inr h3)
  ·rw[mε h1,mε h2,mε h3]at h;cases hq:be n.name []<;>rw[hq]at h<;>simp at h
 have hI:n.v.I=[]:=by
  unfold kg HJ cT at hv;simp only[lγ,Bool.not_eq_true',qβ,dJ,bE,lμ,Bool.and_eq_false_iff,Bool.not_eq_false',lε]at hv;obtain⟨_,_,⟨_,a2,_⟩,_⟩:=hv;exact lθ (by rcases a2 with a2|a2<;>omega)
 exact⟨F1 hv hn (fun x hx=>by rw[hI]at hx;cases hx),by omega⟩
def abf {c:CS}(hp:AC x c){s:TS}(h:Rn x c s){i:Nat}{vr:Vr}(hv:cj c.va (i:Int)=some vr):∃v,À x s (i:Int)=some v/\Wk v/\Lk vr.kind v:=by
 unfold À;have he:rP x (i:Int)=some vr:=by unfold rP Tf;rw[hp.body];exact hv
 rw[qJ h.fb,he];simp only;rcases hp.sl _ _ hv with⟨hf,f,h1,h2⟩|⟨hf,f,h1,h2⟩
 ·obtain⟨j,e1,e2⟩:=w7 (f:=Fe.kind) h1;obtain⟨v,g1,g2⟩:=h.fl.get e2;rw[hf,cond_true,e1,cd,g1];exact⟨v,rfl,h.fw v (lξ g1),by rw[<-h2];exact g2⟩
 ·obtain⟨j,e1,e2⟩:=w7 (f:=Pa.kind) h1;obtain⟨v,g1,g2⟩:=h.ll.get e2;rw[hf,cond_false,e1,cd,g1];exact⟨v,rfl,h.lw v (lξ g1),by rw[<-h2];exact g2⟩
def aaH {x:dR}{c:CS}(hp:AC x c):∀(f:Nat) (s:TS) (i:Nat) (n:No),Rn x c s->x.ns[i]?=some n->fi n.op=true->i<f->∃v s',tV x f s (i:Int)=some (v,s')/\Wk v/\Rs x c s (fun k=>cj c.ki (i:Int)=some k) v s'
 |0,_,_,_,_,_,_,h=>by omega
 |f+1,s,i,n,hs,hn,ho,hf=>by
  have hi:i<x.ns.length:=Cj hn;have hty:=hp.ty i (Nat.zero_le _) hi n hn;obtain⟨hkv,hcv⟩:=hp.kv n (lξ hn);have hcn:=hp.cn n (lξ hn);suffices h:∃v s',Tv x (tV x f) s (At n i)=some (v,s')/\Wk v/\Rs x c s (fun k=>cj c.ki (i:Int)=some k) v s' by
   obtain⟨v,s',h1,h2,h3⟩:=h;refine⟨v,s',?_,h2,h3⟩;simp only[tV,cd,hn,h1];exact qJ h2 _
  have kid:∀q∈n.kids,(∃(e:Nat) (y:No),q=e/\e<i/\x.ns[e]?=some y/\fi y.op=true)->∃v s',tV x f s q=some (v,s')/\Wk v/\Rs x c s (fun k=>cj c.ki q=some k) v s':=by
   intro q hq ⟨e,y,h1,h2,h3,h4⟩;subst h1;exact aaH hp f s e y hs h3 h4 (by omega)
  -- an operation on the kids' values
  have oper:∀(M:Nat) (lo hi:Int),eN n lo hi=true->dq x.ns n 0 fi=true->hi<=16->(∀l:List Va,l.length=n.kids.length->(∀v∈l,Wk v)->(∀ks,n.kids.map (cj c.ki)=ks.map some->KV2 ks l)->∃v e,eOp M n.name l=some (v,e)/\Wk v/\(e=0->∀k,cj c.ki (i:Int)=some k->Lk k v))->∃v s',Tv x (tV x f) s (.o M n n)=some (v,s')/\Wk v/\Rs x c s (fun k=>cj c.ki (i:Int)=some k) v s':=by
   intro M lo hi hc ha hh hop;have hka:=pc hp hn ha;obtain⟨r,s1,e1,g⟩:=Xw hs.sd n.kids (fun q hq=>kid q hq (hka q hq)) [];simp only[Tv,e1];rcases g with⟨rfl,t,h1,h2,h3,h4⟩|g
   ·rw[List.nil_append]at h1;subst h1;obtain⟨v,e,o1,o2,o3⟩:=hop r h2 h3 h4;have hcl:=f8 hc;rw[hs.sd,cond_false,qJ (show r.length<=100 by omega),o1];exact aao hp hs o2 _ o3
   ·rw[g.sd,cond_true];exact⟨v0,s1,rfl,kf,.inr g⟩
  rcases WT ho with h|h|h|h|h|h
  ·have hc:At n i= .c n:=by unfold At;rw[h];rfl
   rw[hc];obtain⟨w,hk⟩:=V6 h hcv hcn;refine⟨n.v,s,rfl,w,.inl ⟨rfl,fun q hq=>?_⟩⟩
   rw[hty.k1 h]at hq;obtain rfl:=Option.some.inj hq;exact pX hk
  ·have hc:At n i= .v i:=by unfold At;rw[h];rfl
   rw[hc];obtain⟨vr,h1,h2⟩:=hty.k2 h;obtain⟨v,e1,e2,e3⟩:=abf hp hs h1;simp only[Tv,e1];refine⟨v,s,rfl,e2,.inl ⟨rfl,fun q hq=>?_⟩⟩
   rw[h2]at hq;obtain rfl:=Option.some.inj hq;exact e3
  ·have hc:At n i= .s:=by unfold At;rw[h];rfl
   rw[hc];refine⟨_,s,rfl,P0 hp.ky,.inl ⟨rfl,fun q hq=>?_⟩⟩
   rw[hty.k3 h]at hq;obtain rfl:=Option.some.inj hq;exact pX (by decide)
  ·have hc:At n i= .o 112 n n:=by unfold At;rw[h];rfl
   have hv:(eN n 1 1&&dq x.ns n 0 fi)=true:=by unfold eu at hkv;rw[h]at hkv;exact hkv
   rw[lγ]at hv;rw[hc];refine oper 112 1 1 hv.1 hv.2 (by decide) fun l hl hw _=>?_
   have:=f8 hv.1;match l,hl,hw with
   |a::t,_,_=>
    refine⟨(S_ n.name a).1,(S_ n.name a).2,rfl,abh _ _,fun _ k hk=>?_⟩
    obtain⟨k',g1,g2,g3⟩:=hty.k4 (.inl h);rw[g1]at hk;obtain rfl:=Option.some.inj hk;exact pX (by omega)
   |[],hl,_=>simp only[List.length_nil]at hl;omega
  ·have hv:(eN n 2 2&&dq x.ns n 0 fi)=true:=by unfold eu at hkv;rw[h]at hkv;exact hkv
   rw[lγ]at hv;have hk4:∀k,cj c.ki (i:Int)=some k->¬(k=4\/k=5):=fun k hk=>by
    obtain⟨k',g1,g2,g3⟩:=hty.k4 (.inr h);rw[g1]at hk;obtain rfl:=Option.some.inj hk;omega
   have hcl:=f8 hv.1;have logic:∀d:Int,∃v s',Tv x (tV x f) s (.l n d)=some (v,s')/\Wk v/\Rs x c s (fun k=>cj c.ki (i:Int)=some k) v s':=by
    intro d;have hka:=pc hp hn hv.2;match hk:n.kids with
    |[]=>rw[hk]at hcl;simp only[List.length_nil]at hcl;omega
    |[a]=>rw[hk]at hcl;simp only[List.length_cons,List.length_nil]at hcl;omega
    |a::b::r=>
     obtain⟨v,s1,e1,wv,g⟩:=kid a (by rw[hk];exact lη) (hka a (by rw[hk];exact lη));simp only[Tv,hk,e1];rcases g with⟨rfl,g⟩|g
     ·rw[hs.sd,Bool.false_or];cases az v.n d
      ·rw[cond_false];obtain⟨w,s2,e2,ww,g2⟩:=kid b (by rw[hk];exact lρ _ lη) (hka b (by rw[hk];exact lρ _ lη));refine⟨w,s2,e2,ww,?_⟩;rcases g2 with⟨rfl,_⟩|g2
       ·exact .inl ⟨rfl,fun q hq=>pX (hk4 q hq)⟩
       ·exact .inr g2
      ·exact⟨v,_,rfl,wv,.inl ⟨rfl,fun q hq=>pX (hk4 q hq)⟩⟩
     ·rw[g.sd,Bool.true_or,cond_true];exact⟨v,s1,rfl,wv,.inr g⟩
   have hc:At n i=(bif be n.name [38,38]then .l n 0 else bif be n.name [124,124]then .l n 1 else .o 115 n n):=by unfold At;rw[h];rfl
   rw[hc];cases be n.name [38,38]
   ·cases be n.name [124,124]
    ·refine oper 115 2 2 hv.1 hv.2 (by decide) fun l hl hw _=>?_
     match l,hl,hw with
     |a::b::t,_,hw=>exact⟨(Ż n.name a b).1,(Ż n.name a b).2,rfl,abg _ (hw a lη) (hw b (lρ _ lη)),fun _ k hk=>pX (hk4 k hk)⟩
     |[],hl,_=>simp only[List.length_nil]at hl;omega
     |[a],hl,_=>simp only[List.length_cons,List.length_nil]at hl;omega
    ·exact logic 1
   ·exact logic 0
  ·have hc:At n i= .o 117 n n:=by unfold At;rw[h];rfl
   have hv:(eN n 0 16&&dq x.ns n 0 fi)=true:=by unfold eu at hkv;rw[h]at hkv;exact hkv
   rw[lγ]at hv;rw[hc];have hcl:=f8 hv.1;refine oper 117 0 16 hv.1 hv.2 (by decide) fun l hl hw hkk=>?_
   obtain⟨ks,k,g1,g2,g3⟩:=hty.k6 h;obtain⟨⟨v,e⟩,o1,o2,o3⟩:=aam g3 (hkk ks g1) hw (by omega);refine⟨v,e,o1,o2,fun he q hq=>?_⟩
   rw[g2]at hq;obtain rfl:=Option.some.inj hq;exact o3 he
end
end Go.Ab
