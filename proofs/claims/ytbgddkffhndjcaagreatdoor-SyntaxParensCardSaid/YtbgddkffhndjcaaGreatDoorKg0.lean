import Derived.Test.YtbgddkffhndjcaaGreatDoorAl
import Derived.Test.YtbgddkffhndjcaaGreatDoorDcA
import Derived.Test.YtbgddkffhndjcaaGreatDoorOg0
import Derived.Test.YtbgddkffhndjcaaGreatDoorOg1
set_option linter.all false
section
namespace Go.Ab
open Go
set_option maxRecDepth 100000
noncomputable section
structure Va where
 k:Int
 n:Int
 s:List Nat
 I:List Int
 L:List (List Nat)
structure No where
 op:Int
 name:List Nat
 v:Va
 kids:List Int
structure Pa where
 name:List Nat
 kind:Int
structure Fe where
 name:List Nat
 kind:Int
 init:Va
structure Me where
 name:List Nat
 params:List Pa
 result:Int
 nodes:List No
structure Ac where
 name:List Nat
 fields:List Fe
 methods:List Me
structure Tk where
 k:Int
 s:List Nat
 n:Int
 a:Int
structure PS where
 tk:List Tk
 ps:Nat
 en:Int
 aT:Int
 er:Int
 ne:Int
 tt:Int
 nd:List No
def iE (i:Int):Da:= .int .i64 i
def fA:Nat:=1000000000000
theorem wS {i:Nat}(h:i<fA):aj .i64 ((i:Int)+1)=((i+1:Nat):Int):=by
 unfold fA at h;rw[gm (by omega) (by omega)];omega
theorem ue {a b:Int}(h:a<b):bo a b=true:=by rw[oJ];simpa using h
theorem Df {a b:Int}(h:¬a<b):bo a b=false:=by rw[oJ];simpa using h
theorem oA (a:Int):bo a a=false:=Df (Int.lt_irrefl a)
theorem ZH {a b:Int}(h:a=b):eqI a b=true:=by rw[cF];simpa using h
theorem ZG {a b:Int}(h:¬a=b):eqI a b=false:=by rw[cF];simpa using h
theorem oz {a b:Int}(h:a≤b):bh a b=true:=by rw[mh];simpa using h
theorem Ys {a b:Int}(h:¬a≤b):bh a b=false:=by rw[mh];simpa using h
theorem XA (a b:Bool)(t e:R):iL a t (iL b t e)=iL (a||b) t e:=by cases a<;>rfl
theorem kf (a x y:Bool):iL a (some ((.p (.bool x)),[])) (some ((.p (.bool y)),[]))=some ((.p (.bool (bif a then x else y))),[]):=by cases a<;>rfl
theorem BV (a:Bool):(bif a then true else false)=a:=by cases a<;>rfl
theorem YE (a:Bool):(bif a then false else true)=!a:=by cases a<;>rfl
theorem R9 (a b:Bool):(bif a then b else false)=(a&&b):=by cases a<;>rfl
theorem Xi (a b:Bool):(bif a then true else b)=(a||b):=by cases a<;>rfl
def Ln (c:Int):Bool:=(bh 97 c&&bh c 122)||((bh 65 c&&bh c 90)||eqI c 95)
def eE (c:Int):Bool:=bh 48 c&&bh c 57
def FU (c:Int):Bool:=Ln c||eE c
def LQ (c:Int):Bool:=bh 32 c&&(bh c 126&&(!eqI c 34&&!eqI c 92))
def zl (s:List Nat):Bool:=[[97,99,116,111,114],[115,116,97,116,101],[109,101,116,104,111,100],[108,101,116],[105,102],[101,108,115,101],[119,104,105,108,101],[114,101,116,117,114,110],[102,97,105,108],[99,97,108,108],[101,109,105,116],[114,101,109,105,110,100],[99,97,110,99,101,108],[115,101,108,102],[116,114,117,101],[102,97,108,115,101],[105,110,116],[98,111,111,108],[115,116,114,105,110,103],[105,110,116,115],[115,116,114,105,110,103,115]].any fun t=>cp s t
def dD (p:Int→Bool)(s:List Nat):Nat:=(s.takeWhile fun(c:Nat)=>p (c:Int)).length
def cJ (s:List Nat):Nat:=bif Ln ((s.headD 0:Nat):Int)then dD FU s else 0
def Jj (s:List Nat):Bool:=!cp s []&&(bh s.length 32&&(eqI (cJ s) s.length&&!zl s))
def gq (s p:List Nat):Bool:=cp (s.take p.length) p
def twoS:List (List Nat):=[[61,61],[33,61],[60,61],[62,61],[38,38],[124,124]]
def oneS:List Nat:=[123,125,40,41,91,93,44,59,58,46,61,60,62,43,45,42,47,37,33]
def mb (s:List Nat):Nat:=bif twoS.any (gq s)then 2 else match s with|[]=>0|c::_=>bif oneS.any (Nat.beq c)then 1 else 0
def QV (s:List Nat):Bool:=!cp s []&&eqI (mb s) (s.length:Int)
def tk0:Tk:=⟨0,[],0,0⟩
def bZ (t:Tk):Bool:=bif eqI t.k 1 then Jj t.s else bif eqI t.k 2 then zl t.s else bif eqI t.k 3 then bh 0 t.n else bif eqI t.k 4 then bh (t.s.length:Int) 64 else bif eqI t.k 5 then QV t.s else false
def PS.ok (s:PS):Bool:=eqI s.er 0
def PS.fail (s:PS)(e:Int):PS:=bif s.ok then {s with er:=e,aT:=match s.tk[s.ps]? with|some t=>t.a|none=>s.en}else s
def PS.peek (s:PS)(i:Nat):Tk:=bif s.ok then(match s.tk[s.ps+i]? with|some t=>bif bZ t then t else tk0|none=>tk0)else tk0
def PS.is (s:PS)(x:List Nat):Bool:=(eqI (s.peek 0).k 2||eqI (s.peek 0).k 5)&&cp (s.peek 0).s x
def PS.up (s:PS):PS:={s with ps:=s.ps+1}
def PS.exp (s:PS)(x:List Nat):PS:=bif s.is x then s.up else s.fail 13
def PS.take (s:PS)(k:Int):Tk×PS:=bif eqI (s.peek 0).k k then(s.peek 0,s.up)else(tk0,s.fail 13)
def PS.opn1 (s:PS)(x:List Nat):PS:=(bif s.is x&&eqI s.ne 24 then s.fail 5 else s).exp x
def PS.open (s:PS)(x:List Nat):PS:={s.opn1 x with ne:=aj .i64 ((s.opn1 x).ne+1)}
def PS.close (s:PS)(x:List Nat):PS:={s.exp x with ne:=aj .i64 ((s.exp x).ne - 1)}
end
end Go.Ab
end
section
namespace Go.Ab
open Go
set_option maxRecDepth 100000
noncomputable section
abbrev PM (α:Type):=PS→Option (α×PS)
namespace PM
def ret {α:Type}(a:α):PM α:=fun s=>some (a,s)
def bnd {α β:Type}(p:PM α)(f:α→PM β):PM β:=fun s=>match p s with|none=>none|some r=>f r.1 r.2
end PM
def PS.sz (s:PS):Bool:=decide (s.ps≤s.tk.length)&&(decide (s.tk.length<1000000)&&s.tk.all fun t=>t.s.all fun c=>decide (c<256))
def lf {α:Type}(g:PS→α×PS):PM α:=fun s=>bif s.sz then some (g s)else none
def cnd {α:Type}(c:PS→Bool)(p q:PM α):PM α:=fun s=>bif s.sz then(bif c s then p s else q s)else none
def cok {α:Type}(p q:PM α):PM α:=fun s=>bif s.ok then p s else q s
def fnO {α:Type}(l:List (List Nat))(p:PM α)(f:List Nat→PM α):PM α:=fun s=>bif s.sz then(match l.find? s.is with|none=>p s|some o=>f o s)else none
def pUp:PM Unit:=lf fun s=>((),s.up)
def rB (e:Int):PM Unit:=lf fun s=>((),s.fail e)
def gi (x:List Nat):PM Unit:=lf fun s=>((),s.exp x)
def kL (x:List Nat):PM Unit:=lf fun s=>((),s.open x)
def gM (x:List Nat):PM Unit:=lf fun s=>((),s.close x)
def mo (k:Int):PM Tk:=lf fun s=>s.take k
def pName:PM (List Nat):=(mo 1).bnd fun t=> .ret t.s
def pPeek:PM Tk:=lf fun s=>(s.peek 0,s)
def pDec:PM Unit:=fun s=>some ((),{s with ne:=aj .i64 (s.ne - 1)})
def PS.add (s:PS)(x:No):Int×PS:=bif s.ok then((s.nd.length:Int),{s with nd:=s.nd++[x]})else(0,s)
def ea (x:No):PM Int:=fun s=>bif decide (s.nd.length<1000000)&&decide (x.kids.length<1000000)then some (s.add x)else none
def kindL:List (List Nat):=[[105,110,116],[98,111,111,108],[115,116,114,105,110,103],[105,110,116,115],[115,116,114,105,110,103,115]]
def eX:List (List Nat)→Int→PS→Int×PS
 |[],_,s=>(0,s.fail 13)
 |x::r,i,s=>bif s.is x then(i,s.up)else eX r (i+1) s
def pKind:PM Int:=lf fun s=>eX kindL 1 s
def pInt:PM Int:=cnd (fun s=>s.is [45]) (pUp.bnd fun _=>(mo 3).bnd fun t=> .ret (aj .i64 (0 - t.n))) ((mo 3).bnd fun t=> .ret t.n)
def j9 {α:Type}(begins:PS→Bool)(elem:α→PM α)(most:Nat):Nat→Nat→α→PM α
 |0,_,_=>fun _=>none
 |q+1,n,a=>cok
   ((lf fun s=>((),bif !begins s then s.fail 13 else bif Nat.beq n most then s.fail 5 else s)).bnd fun _=>
    (elem a).bnd fun a'=>cnd (fun s=>s.is [44]) (pUp.bnd fun _=>j9 begins elem most q (n+1) a') (.ret a'))
   (.ret a)
def B2 {α:Type}(begins:PS→Bool)(elem:α→PM α)(most q:Nat)(a:α):PM α:=cnd (fun s=>s.is [41]) (.ret a) (j9 begins elem most q 0 a)
def beginL:List (List Nat):=[[116,114,117,101],[102,97,108,115,101],[115,101,108,102],[105,110,116,115],[115,116,114,105,110,103,115],[40],[45],[33]]
def PS.begins (s:PS):Bool:=(eqI (s.peek 0).k 1||(eqI (s.peek 0).k 3||eqI (s.peek 0).k 4))||((eqI (s.peek 0).k 2||eqI (s.peek 0).k 5)&&beginL.any (cp (s.peek 0).s))
def vz:Va:=⟨0,0,[],[],[]⟩
def vI (n:Int):Va:=⟨1,n,[],[],[]⟩
def GQ (s:PS):Bool:=s.is [45]||eqI (s.peek 0).k 3
def GT (s:PS):Bool:=eqI (s.peek 0).k 4
def GS (s:PS):Bool:=eqI (s.peek 0).k 1
def snoc {α:Type}(p:PM α)(l:List α):PM (List α):=p.bnd fun x=>fun s=>bif decide (l.length<1000000)then some (l++[x],s)else none
def iK (c:PM Va):PM Va:=cnd (fun s=>eqI (s.peek 0).k 4) (lf fun s=>(⟨3,0,(s.peek 0).s,[],[]⟩,s.up))
 (cnd (fun s=>s.is [116,114,117,101]) (lf fun s=>(⟨2,1,[],[],[]⟩,s.up)) (cnd (fun s=>s.is [102,97,108,115,101]) (lf fun s=>(⟨2,0,[],[],[]⟩,s.up)) c))
def yd (q:Nat):PM Va:=iK
 (cnd (fun s=>s.is [105,110,116,115]) (pUp.bnd fun _=>(gi [40]).bnd fun _=>(B2 GQ (snoc pInt) 16 q []).bnd fun l=>(gi [41]).bnd fun _=> .ret ⟨4,0,[],l,[]⟩)
 (cnd (fun s=>s.is [115,116,114,105,110,103,115]) (pUp.bnd fun _=>(gi [40]).bnd fun _=>(B2 GT (snoc ((mo 4).bnd fun t=> .ret t.s)) 16 q []).bnd fun l=>(gi [41]).bnd fun _=> .ret ⟨5,0,[],[],l⟩)
 (pInt.bnd fun n=> .ret (vI n))))
def eF (operand:PM Int)(ops:List (List Nat)):Nat→Int→PM Int
 |0,_=>fun _=>none
 |q+1,x=>fnO ops (.ret x) fun o=>pUp.bnd fun _=>operand.bnd fun y=>(ea ⟨5,o,vz,[x,y]⟩).bnd fun z=>eF operand ops q z
def gu (operand:PM Int)(ops:List (List Nat))(q:Nat):PM Int:=operand.bnd fun x=>eF operand ops q x
def wZ:List (List Nat):=[[61,61],[33,61],[60],[60,61],[62],[62,61]]
def Fp (sum:PM Int):PM Int:=sum.bnd fun x=>fnO wZ (.ret x) fun o=>pUp.bnd fun _=>sum.bnd fun y=>ea ⟨5,o,vz,[x,y]⟩
def oL (ex:PM Int)(q:Nat):PM (List Int):=(kL [40]).bnd fun _=>(B2 PS.begins (snoc ex) 16 q []).bnd fun l=>(gM [41]).bnd fun _=> .ret l
def UC (o:List Nat)(fac:PM Int):PM Int:=(kL o).bnd fun _=>(cok fac (.ret 0)).bnd fun x=>pDec.bnd fun _=>ea ⟨4,o,vz,[x]⟩
def zw (fac pr:PM Int):PM Int:=cnd (fun s=>s.is [45]) (UC [45] fac) (cnd (fun s=>s.is [33]) (UC [33] fac) pr)
def PS.appl (s:PS):Bool:=eqI (s.peek 1).k 5&&cp (s.peek 1).s [40]
def jv (ex:PM Int)(q:Nat):PM Int:=
 cnd (fun s=>eqI (s.peek 0).k 1&&!s.appl) (pPeek.bnd fun t=>pUp.bnd fun _=>ea ⟨2,t.s,vz,[]⟩)
 (cnd (fun s=>eqI (s.peek 0).k 1||(s.is [105,110,116,115]||s.is [115,116,114,105,110,103,115])) (pPeek.bnd fun t=>pUp.bnd fun _=>(oL ex q).bnd fun l=>ea ⟨6,t.s,vz,l⟩)
 (cnd (fun s=>eqI (s.peek 0).k 3) (pPeek.bnd fun t=>pUp.bnd fun _=>ea ⟨1,[],vI t.n,[]⟩)
 (cnd (fun s=>eqI (s.peek 0).k 4||(s.is [116,114,117,101]||s.is [102,97,108,115,101])) ((iK fun _=>none).bnd fun v=>ea ⟨1,[],v,[]⟩)
 (cnd (fun s=>s.is [115,101,108,102]) (pUp.bnd fun _=>ea ⟨3,[],vz,[]⟩)
 (cnd (fun s=>s.is [40]) ((kL [40]).bnd fun _=>(cok ex (.ret 0)).bnd fun x=>(gM [41]).bnd fun _=> .ret x)
 ((rB 13).bnd fun _=> .ret 0))))))
def ku (q:Nat):Nat→Nat→PM Int
 |0,_=>fun _=>none
 |f+1,0=>gu (ku q f 1) [[124,124]] q
 |f+1,1=>gu (ku q f 2) [[38,38]] q
 |f+1,2=>Fp (ku q f 3)
 |f+1,3=>gu (ku q f 4) [[43],[45]] q
 |f+1,4=>gu (ku q f 5) [[42],[47],[37]] q
 |f+1,5=>zw (ku q f 5) (ku q f 6)
 |f+1,_=>jv (ku q f 0) q
def rA (ex:PM Int)(q:Nat):PM Int:=(gi [99,97,108,108]).bnd fun _=>pName.bnd fun n=>(kL [40]).bnd fun _=>ex.bnd fun key=>(gM [41]).bnd fun _=>(gi [46]).bnd fun _=>pName.bnd fun m=>(oL ex q).bnd fun l=>ea ⟨7,n,⟨0,0,m,[],[]⟩,key::l⟩
def tz (ex:PM Int)(q:Nat):PM Int:=(gi [61]).bnd fun _=>cnd (fun s=>s.is [99,97,108,108]) (rA ex q) ex
def ru (ex:PM Int):Nat→List Int→PM (List Int)
 |0,l=> .ret l
 |n+1,l=>bif l.isEmpty then(snoc ex l).bnd (ru ex n)else(gi [44]).bnd fun _=>(snoc ex l).bnd (ru ex n)
def Fq (ex:PM Int)(n:Nat):PM (List Int):=(kL [40]).bnd fun _=>(ru ex n []).bnd fun l=>(gM [41]).bnd fun _=> .ret l
def lU (x:No):PM Int:=(gi [59]).bnd fun _=>ea x
def AF (op:Int)(ex bl:PM Int):PM Int:=(kL [40]).bnd fun _=>ex.bnd fun c=>(gM [41]).bnd fun _=>bl.bnd fun b=>
 bif eqI op 11 then cnd (fun s=>s.is [101,108,115,101]) (pUp.bnd fun _=>bl.bnd fun e=>ea ⟨op,[],vz,[c,b,e]⟩) (ea ⟨op,[],vz,[c,b]⟩)else ea ⟨op,[],vz,[c,b]⟩
def mm (ex bl:PM Int)(q:Nat):PM Int:=
 cnd (fun s=>s.is [108,101,116]) (pUp.bnd fun _=>pName.bnd fun n=>(gi [58]).bnd fun _=>pKind.bnd fun k=>(tz ex q).bnd fun x=>lU ⟨8,n,⟨k,0,[],[],[]⟩,[x]⟩)
 (cnd (fun s=>eqI (s.peek 0).k 1) (pName.bnd fun n=>(tz ex q).bnd fun x=>lU ⟨9,n,vz,[x]⟩)
 (cnd (fun s=>s.is [99,97,108,108]) ((rA ex q).bnd fun x=>lU ⟨10,[],vz,[x]⟩)
 (cnd (fun s=>s.is [105,102]) (pUp.bnd fun _=>AF 11 ex bl)
 (cnd (fun s=>s.is [119,104,105,108,101]) (pUp.bnd fun _=>AF 12 ex bl)
 (cnd (fun s=>s.is [114,101,116,117,114,110]) (pUp.bnd fun _=>cnd (fun s=>s.is [59]) (lU ⟨13,[],vz,[]⟩) (ex.bnd fun x=>lU ⟨13,[],vz,[x]⟩))
 (cnd (fun s=>s.is [102,97,105,108]) (pUp.bnd fun _=>lU ⟨14,[],vz,[]⟩)
 (cnd (fun s=>s.is [101,109,105,116]) (pUp.bnd fun _=>(Fq ex 2).bnd fun l=>lU ⟨15,[],vz,l⟩)
 (cnd (fun s=>s.is [114,101,109,105,110,100]) (pUp.bnd fun _=>(Fq ex 3).bnd fun l=>lU ⟨16,[],vz,l⟩)
 (cnd (fun s=>s.is [99,97,110,99,101,108]) (pUp.bnd fun _=>(Fq ex 1).bnd fun l=>lU ⟨17,[],vz,l⟩)
 ((rB 13).bnd fun _=> .ret 0))))))))))
def gt (st:PM Int):Nat→List Int→PM (List Int)
 |0,_=>fun _=>none
 |q+1,l=>cok (cnd (fun s=>s.is [125]) (.ret l) ((snoc st l).bnd (gt st q))) (.ret l)
def hK (op:Int)(hs:List Int):List Int→Nat→Int→Int
 |[],_,m=>m
 |k::r,j,m=>hK op hs r (j+1) (bif(eqI op 11||eqI op 12)&&eqI (j:Int) 0 then(bif bo m (aj .i64 (hs.getD k.toNat 0+1))then aj .i64 (hs.getD k.toNat 0+1)else m)else bif bo m (hs.getD k.toNat 0)then hs.getD k.toNat 0 else m)
def Tc (op m:Int):Int:=bif eqI op 4 then aj .i64 (m+2)else bif eqI op 5||(eqI op 6||(eqI op 7||(eqI op 15||(eqI op 16||(eqI op 17||eqI op 18)))))then aj .i64 (m+1)else m
def hN:List No→Nat→List Int→List Int
 |[],_,hs=>hs
 |x::r,i,hs=>hN r (i+1) (hs.set i (Tc x.op (hK x.op hs x.kids 0 0)))
def iH (ns:List No):Int:=(hN ns 0 (List.replicate ns.length 0)).getD (ns.length - 1) 0
def sY (n:Nat)(x:No):Bool:=decide (x.kids.length<10000)&&x.kids.all fun k=>bh 0 k&&bo k n
def pLim:PM Unit:=fun s=>bif decide (s.nd.length<10000)&&decide (0<s.nd.length)&&s.nd.all (sY s.nd.length)then
 some ((),bif bo 1500 (aj .i64 (s.tt+(s.nd.length:Int)))then s.fail 5 else bif bo 24 (iH s.nd)then s.fail 5 else s)else none
def kj (lim:PM Unit)(st:PM Int)(q:Nat):PM Int:=(kL [123]).bnd fun _=>(gt st q []).bnd fun l=>
 cok ((ea ⟨18,[],vz,l⟩).bnd fun x=>lim.bnd fun _=>(gM [125]).bnd fun _=> .ret x) (.ret 0)
def Ku (q:Nat):Nat→PM Int
 |0=>fun _=>none
 |f+1=>kj (.ret ()) (mm (ku q f 0) (Ku q f) q) q
def p9:PM Pa:=pName.bnd fun n=>(gi [58]).bnd fun _=>pKind.bnd fun k=> .ret ⟨n,k⟩
def Fo (f q:Nat):PM (List No):=fun s=>match kj pLim (mm (ku q f 0) (Ku q f) q) q {s with nd:=[],ne:=0}with
 |none=>none
 |some (_,u)=>some (u.nd,{u with tt:=aj .i64 (u.tt+(u.nd.length:Int))})
def yf (f q:Nat):PM Me:=(gi [109,101,116,104,111,100]).bnd fun _=>pName.bnd fun n=>(gi [40]).bnd fun _=>(B2 GS (snoc p9) 4 q []).bnd fun ps=>(gi [41]).bnd fun _=>
 (cnd (fun s=>s.is [58]) (pUp.bnd fun _=>pKind) (.ret 0)).bnd fun k=>(Fo f q).bnd fun ns=> .ret ⟨n,ps,k,ns⟩
def iG (k:Int)(s:PS):Bool:=
 bif eqI k 0 then false else bif eqI k 1 then s.is [45]||eqI (s.peek 0).k 3 else bif eqI k 2 then s.is [116,114,117,101]||s.is [102,97,108,115,101]else bif eqI k 3 then eqI (s.peek 0).k 4 else bif eqI k 4 then s.is [105,110,116,115]else s.is [115,116,114,105,110,103,115]
def p8 (q:Nat):PM Fe:=(gi [115,116,97,116,101]).bnd fun _=>pName.bnd fun n=>(gi [58]).bnd fun _=>pKind.bnd fun k=>(gi [61]).bnd fun _=>
 (lf fun s=>((),bif !iG k s then s.fail 13 else s)).bnd fun _=>(yd q).bnd fun v=>(gi [59]).bnd fun _=> .ret ⟨n,k,v⟩
def eG {α:Type}(w:List Nat)(most:Nat)(p:PM α):Nat→List α→PM (List α)
 |0,_=>fun _=>none
 |q+1,l=>cnd (fun s=>s.is w) ((lf fun s=>((),bif Nat.beq l.length most then s.fail 5 else s)).bnd fun _=>(snoc p l).bnd (eG w most p q)) (.ret l)
def ju (f q:Nat):PM Ac:=(gi [97,99,116,111,114]).bnd fun _=>pName.bnd fun n=>(gi [123]).bnd fun _=>(eG [115,116,97,116,101] 8 (p8 q) q []).bnd fun fs=>(eG [109,101,116,104,111,100] 16 (yf f q) q []).bnd fun ms=>(gi [125]).bnd fun _=> .ret ⟨n,fs,ms⟩
def cX (n f q:Nat):Nat→List Ac→PM (List Ac)
 |0,_=>fun _=>none
 |m+1,l=>cok (cnd (fun s=>decide (s.ps<n)) ((lf fun s=>((),bif s.is [97,99,116,111,114]&&Nat.beq l.length 8 then s.fail 5 else s)).bnd fun _=>(snoc (ju f q) l).bnd (cX n f q m)) (.ret l)) (.ret l)
def lV (tk:List Tk)(en:Int)(f q:Nat):Option (List Ac×Int×Int):=match cX tk.length f q q [] ⟨tk,0,en,0,0,0,0,[]⟩with
 |none=>none
 |some (l,s)=>some (bif !s.ok then([],s.aT,s.er)else(l,0,0))
end
end Go.Ab
end
section
namespace Go.Ab
open Go
set_option maxRecDepth 100000
noncomputable section
def Va.r (v:Va):bH:=⟨v.k,v.n,v.s,v.I.map iE,v.L.map .str⟩
def Va.e (v:Va):Da:=v.r.e
def No.r (n:No):bG:=⟨n.op,n.name,n.v.k,n.v.n,n.v.s,n.v.I.map iE,n.v.L.map .str,n.kids.map iE⟩
def No.e (n:No):Da:=n.r.e
def Pa.r (p:Pa):eP:=⟨p.name,p.kind⟩
def Pa.e (p:Pa):Da:=p.r.e
def Fe.r (f:Fe):ci:=⟨f.name,f.kind,f.init.k,f.init.n,f.init.s,f.init.I.map iE,f.init.L.map .str⟩
def Fe.e (f:Fe):Da:=f.r.e
def Me.r (m:Me):bO:=⟨m.name,m.params.map Pa.e,m.result,m.nodes.map No.e⟩
def Me.e (m:Me):Da:=m.r.e
def Ac.r (a:Ac):bs:=⟨a.name,a.fields.map Fe.e,a.methods.map Me.e⟩
def Ac.e (a:Ac):Da:=a.r.e
def Tk.r (t:Tk):bu:=⟨t.k,t.s,t.n,t.a⟩
def Tk.e (t:Tk):Da:=t.r.e
theorem Zp (n:Va)(K:bH→R):cn n.e K=K n.r:=rfl
theorem Zm (n:No)(K:bG→R):cu n.e K=K n.r:=rfl
theorem ZE (n:Pa)(K:eP→R):cE n.e K=K n.r:=rfl
theorem Zi (n:Fe)(K:ci→R):cd n.e K=K n.r:=rfl
theorem Zj (n:Me)(K:bO→R):cS n.e K=K n.r:=rfl
theorem YG (n:Ac)(K:bs→R):bq n.e K=K n.r:=rfl
theorem xa (t:Tk)(K:bu→R):aL t.e K=K t.r:=rfl
theorem dI (i:Int)(K:Int→R):au .i64 (iE i) K=K i:=rfl
theorem ig (s:List Nat)(K:List Nat→R):cC (Da.str s) K=K s:=rfl
def PS.A (s:PS):bm:=⟨s.tk.map Tk.e,s.ps,s.en,s.aT,s.er,s.ne,s.tt,s.nd.length,s.nd.map No.e⟩
def PS.B (s:PS):bD:=⟨s.tk.map Tk.e,s.ps,s.en,s.aT,s.er,s.ne,s.tt,s.nd.map No.e⟩
theorem b6 (c:bm)(K:bm→R):az c.hp K=K c:=rfl
theorem fD (c:bD)(K:bD→R):aN c.hp K=K c:=rfl
theorem dK {n b:Nat}(h:n<1000000001)(hb:b≤1000):eW n b=true:=by
 unfold eW;rw[lγ,Nat.ble_eq,Nat.ble_eq];constructor
 ·calc (2*n+192)*b≤(2*1000000001+192)*1000:=Nat.mul_le_mul (by omega) hb
   _≤281474976710656:=by decide
 ·omega
theorem aO {c m:Nat}(h:c+1≤m):∃k,m=k+1∧c≤k:=⟨m - 1,by omega,by omega⟩
theorem vK {α:Type}(p:α→Bool):∀s:List α,(match s.findIdx? (fun c=>!p c)with|some j=>j|none=>s.length)=(s.takeWhile p).length
 |[]=>rfl
 |x::r=>by
  rw[qγ,List.takeWhile_cons];have ih:=vK p r;cases p x
  ·rfl
  ·simp only[Bool.not_true,Bool.false_eq_true,if_false,if_true,List.length_cons];rw[←ih];cases r.findIdx? fun c=>!p c<;>rfl
end
end Go.Ab
end
section
namespace Go.Ab
open Go
set_option maxRecDepth 100000
noncomputable section
theorem qp {m:Nat}(c:Int)(hm:1≤m):evFn lay0.tab m 69 [.p (.int .u8 c)] []=some (.p (.bool (eE c)),[]):=by
 obtain⟨m,rfl,-⟩:=aO hm;apply Nj m c;simp only[wo,kf,BV,R9,Bool.and_true,eE]
theorem zK {m:Nat}(c:Int)(hm:1≤m):evFn lay0.tab m 78 [.p (.int .u8 c)] []=some (.p (.bool (Ln c)),[]):=by
 obtain⟨m,rfl,-⟩:=aO hm;apply Kh m c;unfold sk mV Ln;cases bh 97 c<;>cases bh c 122<;>cases bh 65 c<;>cases bh c 90<;>cases eqI c 95<;>rfl
theorem MG {m:Nat}(c:Int)(hm:1≤m):evFn lay0.tab m 91 [.p (.int .u8 c)] []=some (.p (.bool (LQ c)),[]):=by
 obtain⟨m,rfl,-⟩:=aO hm;apply Nk m c;simp only[wq,kf,BV,R9,Bool.and_true,LQ]
theorem MJ {m:Nat}(c:Int)(hm:2≤m):evFn lay0.tab m 79 [.p (.int .u8 c)] []=some (.p (.bool (FU c)),[]):=by
 replace hm:=aO hm;obtain⟨m,rfl,hm⟩:=hm;apply Np m c;simp only[wv,aa (zK c hm),aa (qp c hm),aJ,aq,aM,kf,BV,Xi,Bool.or_false,FU]
def vA (c:Int):Bool:=!eqI c 10
theorem MH {m:Nat}(c:Int)(hm:1≤m):evFn lay0.tab m 68 [.p (.int .u8 c)] []=some (.p (.bool (vA c)),[]):=by
 replace hm:=aO hm;obtain⟨m,rfl,hm⟩:=hm;apply Nm m c;simp only[wt,kf,BV,vA]
theorem Qw (k:Nat):Int.ofNat k=(k:Int):=rfl
theorem Rt {m:Nat}(s:List Nat)(hm:s.length+3≤m)(hl:s.length<fA):evFn lay0.tab m 67 [.p (.str s),.p (.fn 79 [])] []=some (.p (.int .i64 (dD FU s)),[]):=by
 replace hm:=aO hm;obtain⟨m,rfl,hm⟩:=hm;apply RM m s;unfold Bl dD;refine(iS s (fun q i=>nY _ m _ q (s,i)) (fun c:Nat=>!FU (c:Int)) (fun i=>some (.p (.int .i64 i),[])) (some (.p (.int .i64 s.length),[])) (fun q i hi=>?_) (fun q=>?_) (by omega)).trans ?_
 ·rw[wK];simp only[kA,ue (show((i:Int)<(s.length:Int)) by omega),aR,oz (show(0:Int)≤(i:Int) by omega),cond_true,Int.toNat_natCast,lδ hi,dL,wS (show i<fA by omega),Qw,aa (MJ (m:=m) _ (by omega)),aJ,aq,aM];cases FU (s[i]:Int)<;>rfl
 ·rw[wK];simp only[kA,oA,aQ]
 ·rw[←vK];cases s.findIdx? fun c:Nat=>!FU (c:Int)<;>rfl
theorem Rr {m:Nat}(s:List Nat)(hm:s.length+3≤m)(hl:s.length<fA):evFn lay0.tab m 67 [.p (.str s),.p (.fn 69 [])] []=some (.p (.int .i64 (dD eE s)),[]):=by
 replace hm:=aO hm;obtain⟨m,rfl,hm⟩:=hm;apply RK m s;unfold Bj dD;refine(iS s (fun q i=>nW _ m _ q (s,i)) (fun c:Nat=>!eE (c:Int)) (fun i=>some (.p (.int .i64 i),[])) (some (.p (.int .i64 s.length),[])) (fun q i hi=>?_) (fun q=>?_) (by omega)).trans ?_
 ·rw[wI];simp only[kx,ue (show((i:Int)<(s.length:Int)) by omega),aR,oz (show(0:Int)≤(i:Int) by omega),cond_true,Int.toNat_natCast,lδ hi,dL,wS (show i<fA by omega),Qw,aa (qp (m:=m) _ (by omega)),aJ,aq,aM];cases eE (s[i]:Int)<;>rfl
 ·rw[wI];simp only[kx,oA,aQ]
 ·rw[←vK];cases s.findIdx? fun c:Nat=>!eE (c:Int)<;>rfl
theorem Rs {m:Nat}(s:List Nat)(hm:s.length+3≤m)(hl:s.length<fA):evFn lay0.tab m 67 [.p (.str s),.p (.fn 68 [])] []=some (.p (.int .i64 (dD vA s)),[]):=by
 replace hm:=aO hm;obtain⟨m,rfl,hm⟩:=hm;apply RL m s;unfold Bk dD;refine(iS s (fun q i=>nX _ m _ q (s,i)) (fun c:Nat=>!vA (c:Int)) (fun i=>some (.p (.int .i64 i),[])) (some (.p (.int .i64 s.length),[])) (fun q i hi=>?_) (fun q=>?_) (by omega)).trans ?_
 ·rw[wJ];simp only[ky,ue (show((i:Int)<(s.length:Int)) by omega),aR,oz (show(0:Int)≤(i:Int) by omega),cond_true,Int.toNat_natCast,lδ hi,dL,wS (show i<fA by omega),Qw,aa (MH (m:=m) _ (by omega)),aJ,aq,aM];cases vA (s[i]:Int)<;>rfl
 ·rw[wJ];simp only[ky,oA,aQ]
 ·rw[←vK];cases s.findIdx? fun c:Nat=>!vA (c:Int)<;>rfl
theorem lc {m:Nat}(s:List Nat)(hm:1≤m):evFn lay0.tab m 47 [.p (.str s)] []=some (.p (.bool (zl s)),[]):=by
 replace hm:=aO hm;obtain⟨m,rfl,hm⟩:=hm;apply BJ m s;simp only[ls,kf,BV,Xi,zl,List.any_cons,List.any_nil,Bool.or_false]
theorem Is {m:Nat}(s:List Nat)(hm:s.length+4≤m)(hl:s.length<fA):evFn lay0.tab m 46 [.p (.str s)] []=some (.p (.int .i64 (cJ s)),[]):=by
 replace hm:=aO hm;obtain⟨m,rfl,hm⟩:=hm;apply RP m s;unfold Bq cJ;cases s with
 |nil=>rfl
 |cons c r=>
  simp only[show cp (c::r) []=false from rfl,aQ,show bh 0 0=true from rfl,cond_true,Int.toNat_zero,List.getElem?_cons_zero,dL,Qw,aa (zK (m:=m) _ (by omega)),aa (Rt (m:=m) _ hm hl),aJ,aq,aS,aM,List.headD_cons];cases Ln (c:Int)<;>rfl
theorem JU {m:Nat}(s:List Nat)(hm:50≤m):evFn lay0.tab m 16 [.p (.str s)] []=some (.p (.bool (Jj s)),[]):=by
 replace hm:=aO hm;obtain⟨m,rfl,hm⟩:=hm;apply Ke m s;by_cases h:s.length≤32
 ·simp only[nV,aa (Is (m:=m) s (by omega) (by unfold fA;omega)),aa (lc (m:=m) s (by omega)),aJ,aq,aS,aM,kf,YE,R9,Jj]
 ·have:bh (s.length:Int) 32=false:=Ys (by omega);simp only[nV,Jj,this,aQ,Bool.false_and,Bool.and_false];cases cp s []<;>rfl
theorem y0 {m:Nat}(s p:List Nat)(hm:1≤m):evFn lay0.tab m 96 [.p (.str s),.p (.str p)] []=some (.p (.bool (gq s p)),[]):=by
 replace hm:=aO hm;obtain⟨m,rfl,hm⟩:=hm;apply zg m s p;unfold j2 gq;rw[List.drop_zero,show Int.toNat (↑(List.length p)) - 0=p.length by omega];by_cases h:p.length≤s.length
 ·rw[oz (show(p.length:Int)≤s.length by omega),aR,aR,kf,BV]
 ·rw[Ys (show ¬(p.length:Int)≤s.length by omega),aQ,iq,mψ];intro e;have:=congrArg List.length e;rw[mγ]at this;omega
theorem qn {m:Nat}(s p:List Nat)(hm:2≤m):evFn lay0.tab m 66 [.p (.str s),.p (.str p)] []=some (.p (.bool (gq s p)),[]):=by
 replace hm:=aO hm;obtain⟨m,rfl,hm⟩:=hm;apply BG m s p;simp only[lq,aa (y0 s p hm),aJ,aq,aM,kf,BV]
theorem YW (m:Nat)(s:List Nat)(c:Int):evFn lay0.tab (m+1) 95 [.p (.str s),.p (.int .u8 c)] []=oo [.str s,.int .u8 c]:=by kernel_rfl
theorem qo {m:Nat}(s:List Nat)(c:Nat)(hc:c<256)(hm:2≤m):evFn lay0.tab m 65 [.p (.str s),.p (.int .u8 (c:Int))] []=some (.p (.int .i64 (EC s c)),[]):=by
 replace hm:=aO hm;obtain⟨m,rfl,hm⟩:=hm;replace hm:=aO hm;obtain⟨m,rfl,hm⟩:=hm;apply BH (m+1) s c;have h:evFn lay0.tab (m+1) 95 [.p (.str s),.p (.int .u8 (c:Int))] []=some (.p (.int .i64 (EC s c)),[]):=by
  rw[YW];simp only[oo,oz (show(0:Int)≤c by omega),oz (show(c:Int)≤255 by omega),Bool.and_self,cond_true]
 simp only[lr,aa h,aJ,aS,aM]
theorem I7 (s:List Nat)(c:Nat):bh 0 (EC s c)=s.any (fun b=>Nat.beq b c):=by
 unfold EC;have e:(fun b:Nat=>eqI (Int.ofNat b) (c:Int))=fun b=>Nat.beq b c:=by
  funext b;rw[cF,GU,mη,lβ,lβ]
  exact⟨fun h=>Int.ofNat.inj h,fun h=>congrArg Int.ofNat h⟩
 rw[e];cases h:s.findIdx? fun b=>Nat.beq b c with
 |none=>
  rw[qε]at h;symm;rw[show bh 0 (-1)=false from rfl,List.any_eq_false];intro x hx;rw[h x hx];simp
 |some i=>
  obtain⟨hi,hp,-⟩:=mω.1 h;rw[show bh 0 (match (some i:Option Nat)with|some i=>(i:Int)|none=> -1)=true from oz (by show(0:Int)≤(i:Int);omega)];symm;rw[List.any_eq_true];exact⟨_,mπ hi,hp⟩
theorem zI {m:Nat}(s:List Nat)(hb:∀c∈s,c<256)(hm:20≤m):evFn lay0.tab m 72 [.p (.str s)] []=some (.p (.int .i64 (mb s)),[]):=by
 replace hm:=aO hm;obtain⟨m,rfl,hm⟩:=hm;apply Kd m s;unfold sg;replace hm:∃k,m=k+7∧12≤k:=⟨m - 7,by omega,by omega⟩;obtain⟨m,rfl,hm⟩:=hm
 have hp:=fun p=>qn (m:=m+7) s p (by omega)
 simp only[Bu,jI,show ∀a b,aj .i64 ((a:Int)+b)=aj .i64 (a+b)from fun _ _=>rfl,
  show aj .i64 (0+1)=1 from rfl,show aj .i64 (1+1)=2 from rfl,show aj .i64 (2+1)=3 from rfl,show aj .i64 (3+1)=4 from rfl,show aj .i64 (4+1)=5 from rfl,show aj .i64 (5+1)=6 from rfl,
  show bo 0 6=true from rfl,show bo 1 6=true from rfl,show bo 2 6=true from rfl,show bo 3 6=true from rfl,show bo 4 6=true from rfl,show bo 5 6=true from rfl,show bo 6 6=false from rfl,
  show bh 0 0=true from rfl,show bh 0 1=true from rfl,show bh 0 2=true from rfl,show bh 0 3=true from rfl,show bh 0 4=true from rfl,show bh 0 5=true from rfl,aR,aQ,cond_true,
  show((6:Nat):Int)=6 from rfl,show Int.toNat 0=0 from rfl,show Int.toNat 1=1 from rfl,show Int.toNat 2=2 from rfl,show Int.toNat 3=3 from rfl,show Int.toNat 4=4 from rfl,show Int.toNat 5=5 from rfl,
  List.getElem?_cons_zero,List.getElem?_cons_succ,dL,ig,aa (hp _),aJ,aq,aM,XA]
 unfold mb twoS;simp only[List.any_cons,List.any_nil,Bool.or_false];rw[Xz];cases h:(gq s [61,61]||(gq s [33,61]||(gq s [60,61]||(gq s [62,61]||(gq s [38,38]||gq s [124,124])))))
 ·simp only[Bool.false_eq_true,if_false,cond_false];cases s with
  |nil=>rfl
  |cons c r=>
   simp only[show cp (c::r) []=false from rfl,Bool.not_false,aR,List.getElem?_cons_zero,dL,Qw,aa (qo (m:=m+7) _ c (hb c (by simp)) (by omega)),aJ,aS,aM,I7];rw[show(fun b=>Nat.beq b c)=(Nat.beq c)from by funext b;rw[GU,GU];simp only[decide_eq_decide];exact eq_comm];show iL (oneS.any (Nat.beq c)) _ _=_;cases oneS.any (Nat.beq c)<;>rfl
 ·rfl
theorem Dl {m:Nat}(s:List Nat)(hb:∀c∈s,c<256)(hm:21≤m):evFn lay0.tab m 115 [.p (.str s)] []=some (.p (.bool (QV s)),[]):=by
 replace hm:=aO hm;obtain⟨m,rfl,hm⟩:=hm;apply DC m s;simp only[mC,aa (zI s hb hm),aJ,aS,aM,kf,BV,R9,QV,Bool.and_true]
theorem zH {m:Nat}(t:Tk)(hb:∀c∈t.s,c<256)(hm:51≤m):evFn lay0.tab m 99 [.p t.e] []=some (.p (.bool (bZ t)),[]):=by
 replace hm:=aO hm;obtain⟨m,rfl,hm⟩:=hm;apply Kc m t.r;unfold sf jH;simp only[show t.r.Kind=t.k from rfl,show t.r.Text=t.s from rfl,show t.r.Num=t.n from rfl,aa (JU (m:=m) t.s hm),aa (lc (m:=m) t.s (by omega)),aa (Dl (m:=m) t.s hb (by omega)),aJ,aq,aM];unfold bZ;cases eqI t.k 1<;>cases eqI t.k 2<;>cases eqI t.k 3<;>cases eqI t.k 4<;>cases eqI t.k 5<;>simp only[kf,BV,aR,aQ,cond_true,cond_false]
end
end Go.Ab
end
section
namespace Go.Ab
open Go
set_option maxRecDepth 100000
noncomputable section
def gf (c:Nat):Int:=bif eE c then(c:Int) - 48 else bif bh 97 c&&bh c 102 then(c:Int) - 87 else -1
theorem AA (c:Nat):gf c= -1∨0≤gf c∧gf c<16:=by
 unfold gf eE;simp only[mh];by_cases h1:(48:Int)≤c<;>by_cases h2:(c:Int)≤57<;>by_cases h3:(97:Int)≤c<;>by_cases h4:(c:Int)≤102<;>simp[h1,h2,h3,h4]<;>omega
theorem Zw {n:Int}(h0:0≤n)(h1:n<256):aj .u8 n=n:=by
 obtain⟨k,rfl⟩:=Int.eq_ofNat_of_zero_le h0;have:Nat.blt k 256=true:=by rw[Nat.blt_eq];omega
 show aj .u8 (Int.ofNat k)=_;simp only[aj,this,cond_true];rfl
theorem JW {m:Nat}(c:Nat)(hm:2≤m):evFn lay0.tab m 114 [.p (.int .u8 (c:Int))] []=some (.p (.int .i64 (gf c)),[]):=by
 replace hm:=aO hm;obtain⟨m,rfl,hm⟩:=hm;apply Ki m c;simp only[sm,aa (qp (m:=m) c hm),aJ,aq,aM];unfold gf;cases h:eE c with
 |true=>
  simp only[eE,mh,lγ,lβ]at h;rw[aR,cond_true,Zw (by omega) (by omega),gm (by omega) (by omega)]
 |false=>
  rw[aQ,cond_false];cases h1:bh 97 (c:Int)<;>cases h2:bh (c:Int) 102<;>simp only[aR,aQ,Bool.and_false,Bool.false_and,Bool.and_true,cond_false,cond_true];simp only[mh,lβ]at h1 h2;rw[Zw (by omega) (by omega),gm (n:=(c:Int) - 97) (by omega) (by omega),gm (by omega) (by omega)];rw[show(c:Int) - 97+10=(c:Int) - 87 by omega]
def SW:List Nat→Nat×Nat
 |_::c::r=>bif Nat.beq c 34||Nat.beq c 92 then(c,2)else
  match r with
  |a::b::_=>bif Nat.beq c 120&&(bh 0 (gf a)&&bh 0 (gf b))then((16*gf a+gf b).toNat,4)else(0,0)
  |_=>(0,0)
 |_=>(0,0)
theorem Xq (a b:Nat):eqI (a:Int) (b:Int)=Nat.beq a b:=rfl
theorem Y0:((List.range 16).all fun a=>(List.range 16).all fun b=>eqI (aj .u8 (aj .i64 ↑(BitVec.toNat (BitVec.ofInt (IntKind.bits .i64) (aj .i64 ((a:Int)*2 ^ min (Int.toNat 4) (IntKind.bits .i64))) ||| BitVec.ofInt (IntKind.bits .i64) (b:Int))))) (16*(a:Int)+b))=true:=by decide+kernel
theorem JV {m:Nat}(s:List Nat)(hm:3≤m):evFn lay0.tab m 98 [.p (.str s)] []=some (.tup [.p (.int .u8 ((SW s).1:Int)),.p (.int .i64 ((SW s).2:Int))],[]):=by
 replace hm:=aO hm;obtain⟨m,rfl,hm⟩:=hm;apply Kg m s;have nb:=fun c=>JW (m:=m) c hm
 unfold sj;rcases s with _|⟨x,_|⟨c,r⟩⟩
 ·rfl
 ·rfl
 ·have l2:bh 2 ((List.length (x::c::r):Nat):Int)=true:=oz (by simp only[List.length_cons];omega);simp only[l2,aR,show bh 0 1=true from rfl,cond_true,Int.toNat_one,List.getElem?_cons_succ,List.getElem?_cons_zero,dL,Qw,show((34:Int))=((34:Nat):Int)from rfl,show((92:Int))=((92:Nat):Int)from rfl,Xq];unfold SW;cases h1:Nat.beq c 34
  ·cases h2:Nat.beq c 92
   ·simp only[h1,h2,aQ,Bool.or_false,cond_false];unfold mU;rcases r with _|⟨a,_|⟨b,t⟩⟩
    ·rfl
    ·rfl
    ·have l4:bo ((List.length (x::c::a::b::t):Nat):Int) 4=false:=Df (by simp only[List.length_cons];omega);simp only[l4,aQ,show bh 0 1=true from rfl,show bh 0 2=true from rfl,show bh 0 3=true from rfl,cond_true,Int.toNat_one,show Int.toNat 2=2 from rfl,show Int.toNat 3=3 from rfl,List.getElem?_cons_succ,List.getElem?_cons_zero,dL,Qw,show((120:Int))=((120:Nat):Int)from rfl,Xq,aa (nb _),aJ,aS,aM];cases h3:Nat.beq c 120
     ·rfl
     ·simp only[h3,Bool.not_true,aQ,Bool.true_and];rcases AA a with ha|⟨ha,ha'⟩
      ·rw[ha];rfl
      ·rcases AA b with hb|⟨hb,hb'⟩
       ·rw[hb];simp only[Df (show ¬gf a<0 by omega),aQ];rw[show bh 0 (-1)=false from rfl,Bool.and_false];rfl
       ·simp only[Df (show ¬gf a<0 by omega),Df (show ¬gf b<0 by omega),aQ,oz ha,oz hb,Bool.and_true,cond_true];obtain⟨i,hi⟩:=Int.eq_ofNat_of_zero_le ha;obtain⟨j,hj⟩:=Int.eq_ofNat_of_zero_le hb;have hi16:i<16:=by omega
        have hj16:j<16:=by omega
        rw[hi,hj];have:=mζ.1 (mζ.1 Y0 i (List.mem_range.2 hi16)) j (List.mem_range.2 hj16);rw[cF,lβ]at this;rw[this];congr 5;all_goals omega
   ·have:c=92:=lζ h2;subst this;rfl
  ·have:c=34:=lζ h1;subst this;rfl
abbrev LR:=Tk×Int×Int
def pU (e:Int):LR:=(tk0,0,e)
def my:List Nat→List Nat→Nat→LR
 |[],_,_=>pU 13
 |c::r,out,i=>
  bif LQ c then my r (out++[c]) (i+1)else
  bif Nat.beq c 34 then(bif bo 64 (out.length:Int)then pU 5 else(⟨4,out,0,0⟩,((i+1:Nat):Int),0))else
  bif Nat.beq c 92 then
   match r with
   |d::r1=>bif Nat.beq d 34||Nat.beq d 92 then my r1 (out++[d]) (i+2)else
    match r1 with
    |a::b::r2=>bif Nat.beq d 120&&(bh 0 (gf a)&&bh 0 (gf b))then my r2 (out++[(16*gf a+gf b).toNat]) (i+4)else pU 13
    |_=>pU 13
   |[]=>pU 13
  else pU 13
def UN (c:Nat):Da:= .int .u8 (c:Int)
theorem DX:∀(l:List Nat),(∀c∈l,c<256)→eS (l.map UN)=some l
 |[],_=>rfl
 |c::l,h=>by
  have hc:c<256:=h c (by simp);have ih:=DX l fun x hx=>h x (by simp[hx])
  show(match eS (l.map UN)with|some s=>some ((c:Int).toNat % 256::s)|none=>none)=_;rw[ih];simp only[Int.toNat_natCast,Nat.mod_eq_of_lt hc]
def LR.d (r:LR):D:= .tup [.p r.1.e,.p (.int .i64 r.2.1),.p (.int .i64 r.2.2)]
theorem gC {s:List Nat}{i:Nat}{c:Nat}{r:List Nat}(h:s.drop i=c::r):i<s.length∧s[i]?=some c∧s.drop (i+1)=r:=by
 have hi:i<s.length:=by
  by_cases h1:i<s.length
  ·exact h1
  ·rw[List.drop_eq_nil_of_le (by omega)]at h;cases h
 rw[mε hi]at h;injection h with h1 h2;exact⟨hi,by rw[lδ hi,h1],h2⟩
theorem ot (s:List Nat)(i:Nat):List.take (s.length - i) (List.drop i s)=s.drop i:=by
 rw[mσ];rw[lτ];omega
theorem Q8 {m:Nat}(s:List Nat)(hb:∀c∈s,c<256)(hl:s.length<1000000)(hm:3≤m):∀(k:Nat) (t out:List Nat) (i q:Nat),t.length≤k→s.drop i=t→out.length≤i→(∀c∈out,c<256)→k<q→
  L_ztext_1 (bv lay0.tab m) m (fun(i23,i24,i25,s26,l27)=>some ((.tup [(.p (.agg [(.int .i64 i25),(.str s26),(.int .i64 0),(.int .i64 0)])),(.p (.int .i64 i23)),(.p (.int .i64 i24))]),[]))
   (fun(s28,n29,i30,s31,l32)=>some ((.tup [(.p (.agg [(.int .i64 0),(.str []),(.int .i64 0),(.int .i64 0)])),(.p (.int .i64 0)),(.p (.int .i64 13))]),[])) q (s,out.length,(i:Int),[],out.map UN)=some ((my t out i).d,[]):=by
 intro k;induction k with
 |zero=>
  intro t out i q ht hs ho hob hq;obtain⟨q,rfl⟩:∃j,q=j+1:=⟨q - 1,by omega⟩
  obtain rfl:t=[]:=by cases t<;>simp_all
  have hi:s.length≤i:=by
   by_cases h:i<s.length
   ·rw[mε h]at hs;cases hs
   ·omega
  rw[wM];simp only[iP,Df (show ¬(i:Int)<(s.length:Int) by omega),aQ];rfl
 |succ k ih=>
  intro t out i q ht hs ho hob hq;obtain⟨q,rfl⟩:∃j,q=j+1:=⟨q - 1,by omega⟩
  rw[wM];cases t with
  |nil=>
   have hi:s.length≤i:=by
    by_cases h:i<s.length
    ·rw[mε h]at hs;cases hs
    ·omega
   simp only[iP,Df (show ¬(i:Int)<(s.length:Int) by omega),aQ];rfl
  |cons c r=>
   obtain⟨hi,hg,hr⟩:=gC hs;have hcb:∀x∈c::r,x<256:=fun x hx=>hb x (mι (hs▸hx))
   have hlen:i+(c::r).length=s.length:=by
    have:=congrArg List.length hs;rw[lτ]at this;omega
   have htk:List.take (s.length - i) (c::r)=c::r:=by rw[←hs,ot]
   simp only[iP,ue (show(i:Int)<(s.length:Int) by omega),aR,oz (show(0:Int)≤(i:Int) by omega),cond_true,Int.toNat_natCast,hg,dL,Qw,aa (MG (m:=m) (c:Int) (by omega)),aJ,aq,aM,lθ,Nat.beq_refl,hs,htk];have nx:∀(d:Nat) (j:Nat) (t':List Nat),d<256→s.drop (i+(j+1))=t'→t'.length≤k→
     L_ztext_1 (bv lay0.tab m) m (fun(i23,i24,i25,s26,l27)=>some ((.tup [(.p (.agg [(.int .i64 i25),(.str s26),(.int .i64 0),(.int .i64 0)])),(.p (.int .i64 i23)),(.p (.int .i64 i24))]),[]))
      (fun(s28,n29,i30,s31,l32)=>some ((.tup [(.p (.agg [(.int .i64 0),(.str []),(.int .i64 0),(.int .i64 0)])),(.p (.int .i64 0)),(.p (.int .i64 13))]),[])) q (s,List.length (out.map UN++[Da.int .u8 (d:Int)]),((i+(j+1):Nat):Int),[],out.map UN++[Da.int .u8 (d:Int)])=some ((my t' (out++[d]) (i+(j+1))).d,[]):=by
    intro d j t' hd hd' ht';have:=ih t' (out++[d]) (i+(j+1)) q ht' hd' (by rw[lπ,List.length_singleton];omega) (fun x hx=>by rcases mδ.1 hx with h|h;exact hob x h;simp only[List.mem_singleton]at h;omega) (by omega);rw[List.map_append]at this;rw[←this];simp[UN]
   have big1:∀z,eW (out.length+List.length [Da.int .u8 z]) 1=true:=fun z=>dK (by simp only[List.length_singleton];omega) (by decide)
   unfold my;cases hp:LQ c with
   |true=>
    simp only[aR,big1,cond_true];rw[wS (show i<fA by unfold fA;omega)];exact nx c 0 r (hcb c (by simp)) hr (by simp only[List.length_cons]at ht;omega)
   |false=>
    simp only[aQ,cond_false,show((34:Int))=((34:Nat):Int)from rfl,show((92:Int))=((92:Nat):Int)from rfl,Xq];cases h1:Nat.beq c 34 with
    |true=>
     simp only[h1,aR,cond_true];cases h2:bo 64 (out.length:Int)
     ·simp only[aQ,cond_false];have:List.take out.length (List.drop 0 (out.map UN))=out.map UN:=by
       rw[List.drop_zero,mσ (by rw[lθ];omega)]
      rw[this,DX out hob,dL,wS (show i<fA by unfold fA;omega)];rfl
     ·rfl
    |false=>
     simp only[h1,aQ,cond_false];cases h2:Nat.beq c 92 with
     |false=>rfl
     |true=>
      simp only[h2,aR,cond_true,oz (show(i:Int)≤(s.length:Int) by omega),aa (JV (m:=m) (c::r) hm),bc,jM,aJ,aS,aM,big1];cases r with
      |nil=>rfl
      |cons d r1=>
       unfold SW;cases h3:(Nat.beq d 34||Nat.beq d 92)with
       |true=>
        simp only[h3,cond_true,show eqI ((2:Nat):Int) 0=false from rfl,aQ];rw[show(i:Int)+((2:Nat):Int)=((i+1+1:Nat):Int) by omega,gm (by omega) (by omega)];exact nx d 1 r1 (hcb d (by simp)) (by have:=gC hr;exact this.2.2) (by simp only[List.length_cons]at ht;omega)
       |false=>
        simp only[h3,cond_false];rcases r1 with _|⟨a,_|⟨b,r2⟩⟩
        ·rfl
        ·rfl
        ·simp only[];cases h4:(Nat.beq d 120&&(bh 0 (gf a)&&bh 0 (gf b)))with
         |false=>rfl
         |true=>
          simp only[h4,cond_true,show eqI ((4:Nat):Int) 0=false from rfl,aQ];simp only[lγ,mh,lβ]at h4;rw[show(i:Int)+((4:Nat):Int)=((i+(3+1):Nat):Int) by omega,gm (by omega) (by omega)];refine nx (16*gf a+gf b).toNat 3 r2 ?_ ?_ (by simp only[List.length_cons]at ht;omega)
          ·have ha:=AA a;have hb:=AA b;omega
          ·have e1:=gC hr;have e2:=gC e1.2.2;have e3:=gC e2.2.2;exact e3.2.2
end
end Go.Ab
end
section
namespace Go.Ab
open Go
set_option maxRecDepth 100000
noncomputable section
theorem Ru {m:Nat}(c:Nat)(r:List Nat)(hb:∀x∈c::r,x<256)(hl:(c::r).length<1000000)(hm:(c::r).length+10≤m):evFn lay0.tab m 71 [.p (.str (c::r))] []=some ((my r [] 1).d,[]):=by
 replace hm:=aO hm;obtain⟨m,rfl,hm⟩:=hm;apply RO m (c::r);unfold Bp;have:=Q8 (m:=m) (c::r) hb hl (by omega) (c::r).length r [] 1 m (by simp) rfl (by simp) (by simp) (by omega);exact this
def Wx (s:List Nat):Option Int:=match Lib.parseIntB 64 (W5 s)with| .ok v=>some v|_=>none
def E5 (s:List Nat):LR:=
 match Wx (s.take (dD eE s))with
 |some v=>bif bo 1 (dD eE s:Int)&&Nat.beq (s.headD 0) 48 then pU 13 else(⟨3,s.take (dD eE s),v,0⟩,(dD eE s:Int),0)
 |none=>pU 13
theorem YX (m:Nat)(s:List Nat):evFn lay0.tab (m+1) 97 [.p (.str s),.p (.int .i64 10),.p (.int .i64 64)] []=tB 149 [.str s,.int .i64 10,.int .i64 64]:=by kernel_rfl
theorem yB (p:Int→Bool)(s:List Nat):dD p s≤s.length:=by
 unfold dD;exact(List.takeWhile_sublist _).length_le
theorem JX {m:Nat}(s:List Nat)(h0:s≠[])(hl:s.length<1000000)(hm:s.length+10≤m):evFn lay0.tab m 70 [.p (.str s)] []=some ((E5 s).d,[]):=by
 replace hm:=aO hm;obtain⟨m,rfl,hm⟩:=hm;apply Kj m s;have hr:=yB eE s;have e97:evFn lay0.tab m 97 [.p (.str (s.take (dD eE s))),.p (.int .i64 10),.p (.int .i64 64)] []=some (uh 149 (Lib.parseIntB 64 (W5 (s.take (dD eE s)))),[]):=by
  obtain⟨m,rfl,-⟩:=aO (show 0+1≤m by omega);rw[YX];simp only[tB];rw[oz (by show((List.take _ _).length:Int)≤_;rw[mγ];omega)];rfl
 unfold sq E5 Wx;simp only[aa (Rr (m:=m) s (by omega) (by unfold fA;omega)),aJ,aS,aM,oz (show(0:Int)≤(dD eE s:Int) by omega),oz (show(dD eE s:Int)≤(s.length:Int) by omega),aR,Int.toNat_natCast,List.drop_zero,Nat.sub_zero,aa e97];obtain⟨c,r,rfl⟩:∃c r,s=c::r:=by cases s with|nil=>exact absurd rfl h0|cons c r=>exact⟨c,r,rfl⟩
 cases hv:Lib.parseIntB 64 (W5 ((c::r).take (dD eE (c::r))))with
 |ok v=>
  simp only[uh,bc,jM,aM,Tj,aR,D4,aJ,aS,show bh 0 0=true from rfl,cond_true,Int.toNat_zero,List.getElem?_cons_zero,dL,Qw,show((48:Int))=((48:Nat):Int)from rfl,Xq,List.headD_cons];unfold mW mX;simp only[oz (show(0:Int)≤(dD eE (c::r):Int) by omega),oz (show(dD eE (c::r):Int)≤((c::r).length:Int) by omega),aR,Int.toNat_natCast,List.drop_zero,Nat.sub_zero];cases bo 1 (dD eE (c::r):Int)<;>cases Nat.beq c 48<;>rfl
 |_=>
  simp only[uh,bc,jM,aM,Tj,aQ,D4];rfl
theorem Ib (s:List Nat):mb s≤s.length:=by
 unfold mb;cases h:twoS.any (gq s)with
 |true=>
  rw[cond_true];obtain⟨p,hp,h⟩:=List.any_eq_true.1 h;unfold gq at h;rw[iq,lβ]at h;have h2:p.length=2:=by
   simp only[twoS,lψ,List.not_mem_nil,or_false]at hp;rcases hp with rfl|rfl|rfl|rfl|rfl|rfl<;>rfl
  have:=congrArg List.length h;rw[mγ]at this;omega
 |false=>
  rw[cond_false];cases s with
  |nil=>exact Nat.le_refl 0
  |cons c r=>
   simp only[List.length_cons];cases oneS.any (Nat.beq c)<;>simp
def cV:List Nat→LR
 |[]=>pU 0
 |c::r=>bif bo 0 (cJ (c::r):Int)then
   (bif bo 32 (cJ (c::r):Int)then pU 5 else bif zl ((c::r).take (cJ (c::r)))then(⟨2,(c::r).take (cJ (c::r)),0,0⟩,(cJ (c::r):Int),0)else(⟨1,(c::r).take (cJ (c::r)),0,0⟩,(cJ (c::r):Int),0))
  else bif eE c then E5 (c::r)else bif Nat.beq c 34 then my r [] 1 else
   bif eqI (mb (c::r)) 0 then pU 13 else(⟨5,(c::r).take (mb (c::r)),0,0⟩,(mb (c::r):Int),0)
theorem C7 (s:List Nat):cJ s≤s.length:=by
 unfold cJ;cases Ln ((s.headD 0:Nat):Int)
 ·exact Nat.zero_le _
 ·exact yB _ _
theorem MI {m:Nat}(c:Nat)(r:List Nat)(hb:∀x∈c::r,x<256)(hl:(c::r).length<1000000)(hm:(c::r).length+30≤m):evFn lay0.tab m 41 [.p (.str (c::r))] []=some ((cV (c::r)).d,[]):=by
 replace hm:=aO hm;obtain⟨m,rfl,hm⟩:=hm;apply Nn m (c::r);have hw:=C7 (c::r);have hs:=Ib (c::r);unfold wu cV;simp only[aa (Is (m:=m) (c::r) (by omega) (by unfold fA;omega)),aJ,aS,aM,aq,oz (show(0:Int)≤(cJ (c::r):Int) by omega),oz (show(cJ (c::r):Int)≤((c::r).length:Int) by omega),aR,Int.toNat_natCast,List.drop_zero,Nat.sub_zero,aa (lc (m:=m) _ (by omega)),show bh 0 0=true from rfl,cond_true,Int.toNat_zero,List.getElem?_cons_zero,dL,Qw,aa (qp (m:=m) _ (by omega)),show((34:Int))=((34:Nat):Int)from rfl,Xq,aa (JX (m:=m) (c::r) (by simp) hl (by omega)),aa (Ru (m:=m) c r hb hl (by omega)),aa (zI (m:=m) (c::r) hb (by omega)),oz (show(0:Int)≤(mb (c::r):Int) by omega),oz (show(mb (c::r):Int)≤((c::r).length:Int) by omega)];unfold pA;have q:∀a:LR,(aZ a.d fun r16=>af r16 fun d17 r18=>dP d17 fun x19=>aL x19 fun u20=>af r18 fun d21 r22=>dP d21 fun x23=>au .i64 x23 fun i24=>af r22 fun d25 r26=>dP d25 fun x27=>au .i64 x27 fun i28=>aB r26<|aB ([]:List Ob)<|some ((.tup [(.p u20.e),(.p (.int .i64 i24)),(.p (.int .i64 i28))]),[]))=some (a.d,[]):=fun a=>rfl
 simp only[q];cases bo 0 (cJ (c::r):Int)with
 |true=>
  cases bo 32 (cJ (c::r):Int)with
  |true=>rfl
  |false=>cases zl ((c::r).take (cJ (c::r)))<;>rfl
 |false=>
  cases eE (c:Int)with
  |true=>rfl
  |false=>
   cases Nat.beq c 34 with
   |true=>rfl
   |false=>cases eqI (mb (c::r):Int) 0<;>rfl
def GX (c:Nat):Bool:=[32,9,10,13].any fun b=>Nat.beq b c
def fb:Bool→List Nat→Nat
 |_,[]=>0
 |true,c::r=>fb (vA c) r+1
 |false,c::r=>bif GX c then fb false r+1 else bif gq (c::r) [47,47]then fb true r+1 else 0
theorem qh:∀(b:Bool) (s:List Nat),fb b s≤s.length
 |b,[]=>by cases b<;>exact Nat.le_refl 0
 |true,c::r=>by have:=qh (vA c) r;simp only[fb,List.length_cons];omega
 |false,c::r=>by
  have h1:=qh false r;have h2:=qh true r;simp only[fb,List.length_cons];cases GX c<;>cases gq (c::r) [47,47]<;>simp only[cond_true,cond_false]<;>omega
theorem JA:∀s:List Nat,fb true s=dD vA s+fb false (s.drop (dD vA s))
 |[]=>rfl
 |c::r=>by
  unfold dD;rw[List.takeWhile_cons];cases h:vA c with
  |true=>
   simp only[if_true,List.length_cons,List.drop_succ_cons,fb,h];rw[JA r];unfold dD;omega
  |false=>
   have hc:GX c=true:=by
    unfold vA at h;simp only[cF,Bool.not_eq_false',lβ]at h;have:c=10:=by omega
    subst this;rfl
   simp only[Bool.false_eq_true,if_false,List.length_nil,List.drop_zero,fb,h,hc,cond_true];omega
theorem L1 {m:Nat}(s:List Nat)(hb:∀c∈s,c<256)(hl:s.length<1000000)(hm:s.length+6≤m):∀(k:Nat) (t:List Nat) (i q:Nat),t.length≤k→s.drop i=t→i≤s.length→k<q→
  L_zskip_1 (bv lay0.tab m) m (fun i16=>some ((.p (.int .i64 i16)),[])) (fun(s17,i18)=>some ((.p (.int .i64 i18)),[])) q (s,(i:Int))=some (.p (.int .i64 ((i+fb false t:Nat):Int)),[]):=by
 intro k;induction k with
 |zero=>
  intro t i q ht hs hi hq;obtain⟨q,rfl⟩:∃j,q=j+1:=⟨q - 1,by omega⟩
  obtain rfl:t=[]:=by cases t<;>simp_all
  have hi:s.length≤i:=by
   by_cases h:i<s.length
   ·rw[mε h]at hs;cases hs
   ·omega
  rw[wL];simp only[iO,Df (show ¬(i:Int)<(s.length:Int) by omega),aQ];rfl
 |succ k ih=>
  intro t i q ht hs hi hq;obtain⟨q,rfl⟩:∃j,q=j+1:=⟨q - 1,by omega⟩
  rw[wL];cases t with
  |nil=>
   have hi:s.length≤i:=by
    by_cases h:i<s.length
    ·rw[mε h]at hs;cases hs
    ·omega
   simp only[iO,Df (show ¬(i:Int)<(s.length:Int) by omega),aQ];rfl
  |cons c r=>
   obtain⟨hi',hg,hr⟩:=gC hs;have hc:c<256:=hb c (mι (hs▸mν));have hlen:i+(c::r).length=s.length:=by
    have:=congrArg List.length hs;rw[lτ]at this;omega
   have htk:List.take (s.length - i) (c::r)=c::r:=by rw[←hs,ot]
   simp only[iO,ue (show(i:Int)<(s.length:Int) by omega),aR,oz (show(0:Int)≤(i:Int) by omega),cond_true,Int.toNat_natCast,hg,dL,Qw,aa (qo (m:=m) [32,9,10,13] c hc (by omega)),aJ,aq,aS,aM,oz (show(i:Int)≤(s.length:Int) by omega),hs,htk,aa (qn (m:=m) (c::r) [47,47] (by omega)),aa (Rs (m:=m) (c::r) (by omega) (by unfold fA;omega)),I7];show iL (GX c) _ _=_;unfold fb;cases h1:GX c with
   |true=>
    simp only[aR,cond_true];rw[wS (show i<fA by unfold fA;omega),ih r (i+1) q (by simp only[List.length_cons]at ht;omega) hr (by omega) (by omega)];congr 5;omega
   |false=>
    simp only[aQ,cond_false];cases h2:gq (c::r) [47,47]with
    |false=>rfl
    |true=>
     simp only[aR,cond_true];have hrl:=yB vA (c::r);have h47:vA c=true:=by
      unfold gq at h2;rw[iq,lβ]at h2;simp only[List.length_cons,List.length_nil,List.take_succ_cons]at h2;injection h2 with h2;rw[h2];rfl
     have hr1:1≤dD vA (c::r):=by
      unfold dD;rw[List.takeWhile_cons,h47];simp
     have e:(i:Int)+(dD vA (c::r):Int)=((i+dD vA (c::r):Nat):Int):=by omega
     rw[e,gm (by omega) (by omega),ih ((c::r).drop (dD vA (c::r))) (i+dD vA (c::r)) q (by rw[lτ];omega) (by rw[←hs,mκ]) (by omega) (by omega)];have:=JA (c::r);simp only[fb,h47]at this;congr 4;omega
theorem Ir {m:Nat}(s:List Nat)(hb:∀c∈s,c<256)(hl:s.length<1000000)(hm:s.length+7≤m):evFn lay0.tab m 40 [.p (.str s)] []=some (.p (.int .i64 (fb false s:Int)),[]):=by
 replace hm:=aO hm;obtain⟨m,rfl,hm⟩:=hm;apply RN m s;unfold Bm;have:=L1 (m:=m) s hb hl hm s.length s 0 m (Nat.le_refl _) rfl (Nat.zero_le _) (by omega);rw[Nat.zero_add]at this;exact this
def Ic:Nat→List Nat→Nat→List Tk→List Tk×Int×Int
 |0,_,_,_=>([],0,0)
 |_+1,[],_,acc=>(acc,0,0)
 |q+1,c::r,i,acc=>
  bif !eqI (cV (c::r)).2.2 0 then([],(i:Int),(cV (c::r)).2.2)else
   Ic q ((c::r).drop ((cV (c::r)).2.1.toNat+fb false ((c::r).drop (cV (c::r)).2.1.toNat))) (i+((cV (c::r)).2.1.toNat+fb false ((c::r).drop (cV (c::r)).2.1.toNat))) (acc++[{(cV (c::r)).1 with a:=(i:Int)}])
def eI (s:List Nat):List Tk×Int×Int:=bif bo 6000 (s.length:Int)then([],0,5)else Ic (s.length+1) (s.drop (fb false s)) (fb false s) []
end
end Go.Ab
end
section
namespace Go.Ab
open Go
set_option maxRecDepth 100000
noncomputable section
def By (s:List Nat):Prop:=∀c∈s,c<256
theorem By.take {s:List Nat}(h:By s)(n:Nat):By (s.take n):=fun c hc=>h c (qδ hc)
theorem By.drop {s:List Nat}(h:By s)(n:Nat):By (s.drop n):=fun c hc=>h c (mι hc)
theorem By.tail {s:List Nat}{c:Nat}(h:By (c::s)):By s:=fun x hx=>h x (by simp[hx])
theorem By.snoc {s:List Nat}{c:Nat}(h:By s)(hc:c<256):By (s++[c]):=fun x hx=>by
 rcases mδ.1 hx with h1|h1
 ·exact h x h1
 ·simp only[List.mem_singleton]at h1;omega
theorem WS:∀(k:Nat) (t out:List Nat) (i:Nat),t.length≤k→By t→By out→By (my t out i).1.s∧((my t out i).2.2=0→(i:Int)<(my t out i).2.1∧(my t out i).2.1≤((i+t.length:Nat):Int)):=by
 intro k;induction k with
 |zero=>
  intro t out i ht hb ho;obtain rfl:t=[]:=by cases t<;>simp_all
  exact⟨fun c hc=>(by cases hc),fun h=>(by cases h)⟩
 |succ k ih=>
  intro t out i ht hb ho;cases t with
  |nil=>exact⟨fun c hc=>(by cases hc),fun h=>(by cases h)⟩
  |cons c r=>
   have er:∀e,By (pU e).1.s:=fun e c hc=>by cases hc
   have hc:c<256:=hb c (by simp);simp only[List.length_cons]at ht ⊢
   unfold my;cases LQ c with
   |true=>
    rw[cond_true];have:=ih r (out++[c]) (i+1) (by omega) hb.tail (ho.snoc hc);exact⟨this.1,fun h=>by have:=this.2 h;omega⟩
   |false=>
    rw[cond_false];cases Nat.beq c 34 with
    |true=>
     rw[cond_true];cases bo 64 (out.length:Int)with
     |true=>exact⟨er 5,fun h=>by cases h⟩
     |false=>exact⟨ho,fun h=>by show(i:Int)<((i+1:Nat):Int)∧((i+1:Nat):Int)≤_;omega⟩
    |false=>
     rw[cond_false];cases Nat.beq c 92 with
     |false=>exact⟨er 13,fun h=>by cases h⟩
     |true=>
      rw[cond_true];cases r with
      |nil=>exact⟨er 13,fun h=>by cases h⟩
      |cons d r1=>
       simp only[];simp only[List.length_cons]at ht ⊢
       cases(Nat.beq d 34||Nat.beq d 92)with
       |true=>
        rw[cond_true];have:=ih r1 (out++[d]) (i+2) (by omega) hb.tail.tail (ho.snoc (hb d (by simp)));exact⟨this.1,fun h=>by have:=this.2 h;omega⟩
       |false=>
        rw[cond_false];rcases r1 with _|⟨a,_|⟨b,r2⟩⟩
        ·exact⟨er 13,fun h=>by cases h⟩
        ·exact⟨er 13,fun h=>by cases h⟩
        ·simp only[];simp only[List.length_cons]at ht ⊢
         cases h4:(Nat.beq d 120&&(bh 0 (gf a)&&bh 0 (gf b)))with
         |false=>exact⟨er 13,fun h=>by cases h⟩
         |true=>
          rw[cond_true];simp only[lγ,mh,lβ]at h4;have hv:(16*gf a+gf b).toNat<256:=by have ha:=AA a;have hb:=AA b;omega
          have:=ih r2 (out++[(16*gf a+gf b).toNat]) (i+4) (by omega) hb.tail.tail.tail.tail (ho.snoc hv);exact⟨this.1,fun h=>by have:=this.2 h;omega⟩
theorem C3 (c:Nat)(r:List Nat)(hb:By (c::r)):By (cV (c::r)).1.s∧((cV (c::r)).2.2=0→0<(cV (c::r)).2.1∧(cV (c::r)).2.1≤((c::r).length:Int)):=by
 have er:∀e,By (pU e).1.s:=fun e c hc=>by cases hc
 have hw:=C7 (c::r);have hs:=Ib (c::r);simp only[cV];cases h0:bo 0 (cJ (c::r):Int)with
 |true=>
  rw[cond_true];rw[oJ,lβ]at h0;cases bo 32 (cJ (c::r):Int)with
  |true=>exact⟨er 5,fun h=>by cases h⟩
  |false=>
   rw[cond_false];cases zl ((c::r).take (cJ (c::r)))<;>exact⟨hb.take _,fun _=>⟨h0,Int.ofNat_le.2 hw⟩⟩
 |false=>
  rw[cond_false];cases h1:eE (c:Int)with
  |true=>
   rw[cond_true];have hr:=yB eE (c::r);have hr1:1≤dD eE (c::r):=by
    unfold dD;rw[List.takeWhile_cons,h1];simp
   unfold E5;cases Wx ((c::r).take (dD eE (c::r)))with
   |none=>exact⟨er 13,fun h=>by cases h⟩
   |some v=>
    simp only[];cases(bo 1 (dD eE (c::r):Int)&&Nat.beq ((c::r).headD 0) 48)with
    |true=>exact⟨er 13,fun h=>by cases h⟩
    |false=>exact⟨hb.take _,fun _=>⟨by show(0:Int)<(dD eE (c::r):Int);omega,Int.ofNat_le.2 hr⟩⟩
  |false=>
   rw[cond_false];cases Nat.beq c 34 with
   |true=>
    rw[cond_true];have:=WS r.length r [] 1 (Nat.le_refl _) hb.tail (fun c hc=>by cases hc);exact⟨this.1,fun h=>by have:=this.2 h;simp only[List.length_cons];omega⟩
   |false=>
    rw[cond_false];cases h2:eqI (mb (c::r):Int) 0 with
    |true=>exact⟨er 13,fun h=>by cases h⟩
    |false=>
     rw[cF,lχ]at h2;exact⟨hb.take _,fun _=>⟨by show(0:Int)<(mb (c::r):Int);omega,Int.ofNat_le.2 hs⟩⟩
def It (l:List Tk):Prop:=∀t∈l,By t.s
theorem Q2:∀(q:Nat) (t:List Nat) (i:Nat) (acc:List Tk),By t→It acc→It (Ic q t i acc).1∧(Ic q t i acc).1.length≤acc.length+t.length
 |0,t,i,acc,hb,ha=>⟨fun t ht=>(by cases ht),Nat.zero_le _⟩
 |q+1,[],i,acc,hb,ha=>⟨ha,by simp[Ic]⟩
 |q+1,c::r,i,acc,hb,ha=>by
  have h:=C3 c r hb;unfold Ic;cases he:eqI (cV (c::r)).2.2 0 with
  |false=>exact⟨fun t ht=>(by cases ht),Nat.zero_le _⟩
  |true=>
   simp only[Bool.not_true,cond_false];rw[cF,lβ]at he;have h2:=h.2 he;have:=Q2 q ((c::r).drop ((cV (c::r)).2.1.toNat+fb false ((c::r).drop (cV (c::r)).2.1.toNat))) (i+((cV (c::r)).2.1.toNat+fb false ((c::r).drop (cV (c::r)).2.1.toNat))) (acc++[{(cV (c::r)).1 with a:=(i:Int)}]) (hb.drop _) (fun t ht=>by
    rcases mδ.1 ht with h1|h1
    ·exact ha t h1
    ·simp only[List.mem_singleton]at h1;rw[h1];exact h.1)
   refine⟨this.1,mρ this.2 ?_⟩;rw[lπ,lτ,List.length_singleton];simp only[List.length_cons];simp only[List.length_cons]at h2;omega
theorem yQ:∀(q q':Nat) (t:List Nat) (i:Nat) (acc:List Tk),By t→t.length<q→t.length<q'→Ic q t i acc=Ic q' t i acc
 |q+1,q'+1,[],i,acc,hb,h1,h2=>rfl
 |q+1,q'+1,c::r,i,acc,hb,h1,h2=>by
  unfold Ic;cases he:eqI (cV (c::r)).2.2 0 with
  |false=>rfl
  |true=>
   simp only[Bool.not_true,cond_false];rw[cF,lβ]at he;have h:=(C3 c r hb).2 he;simp only[List.length_cons]at h1 h2 h;exact yQ q q' _ _ _ (hb.drop _) (by rw[lτ];simp only[List.length_cons];omega) (by rw[lτ];simp only[List.length_cons];omega)
def JK (r:List Tk×Int×Int):D:= .tup [.p (.slice 4 (r.1.map Tk.e)),.p (.int .i64 r.2.1),.p (.int .i64 r.2.2)]
theorem Q5 {m:Nat}(s:List Nat)(hb:By s)(hl:s.length<1000000)(hm:s.length+40≤m):∀(k:Nat) (t:List Nat) (i q:Nat) (acc:List Tk),t.length≤k→s.drop i=t→i≤s.length→acc.length≤i→k<q→
  L_zTokens_1 (bv lay0.tab m) m (fun(i28,i29,l30,u31)=>some ((.tup [(.p (.slice 4 [])),(.p (.int .i64 i28)),(.p (.int .i64 i29))]),[]))
   (fun(s32,n33,i34,l35)=>some ((.tup [(.p (.slice 4 (List.take n33 (List.drop 0 l35)))),(.p (.int .i64 0)),(.p (.int .i64 0))]),[])) q (s,acc.length,(i:Int),acc.map Tk.e)=some (JK (Ic q t i acc),[]):=by
 intro k;induction k with
 |zero=>
  intro t i q acc ht hs hi ha hq;obtain⟨q,rfl⟩:∃j,q=j+1:=⟨q - 1,by omega⟩
  obtain rfl:t=[]:=by cases t<;>simp_all
  have hi:s.length≤i:=by
   by_cases h:i<s.length
   ·rw[mε h]at hs;cases hs
   ·omega
  rw[qA];simp only[fJ,Df (show ¬(i:Int)<(s.length:Int) by omega),aQ];rw[List.drop_zero,mσ (by rw[lθ];omega)];rfl
 |succ k ih=>
  intro t i q acc ht hs hi ha hq;obtain⟨q,rfl⟩:∃j,q=j+1:=⟨q - 1,by omega⟩
  rw[qA];cases t with
  |nil=>
   have hi:s.length≤i:=by
    by_cases h:i<s.length
    ·rw[mε h]at hs;cases hs
    ·omega
   simp only[fJ,Df (show ¬(i:Int)<(s.length:Int) by omega),aQ];rw[List.drop_zero,mσ (by rw[lθ];omega)];rfl
  |cons c r=>
   obtain⟨hi',hg,hr⟩:=gC hs;have hbt:By (c::r):=hs▸hb.drop i;have hlen:i+(c::r).length=s.length:=by
    have:=congrArg List.length hs;rw[lτ]at this;omega
   have htk:List.take (s.length - i) (c::r)=c::r:=by rw[←hs,ot]
   have hT:=MI (m:=m) c r hbt (by omega) (by omega);have hok:=C3 c r hbt;simp only[fJ,ue (show(i:Int)<(s.length:Int) by omega),aR,oz (show(0:Int)≤(i:Int) by omega),oz (show(i:Int)≤(s.length:Int) by omega),Int.toNat_natCast,hs,htk,aa hT,LR.d,bc,jM,aJ,xa,aS,aM];unfold Ic;generalize cV (c::r)=T at hok;obtain⟨T,n,e⟩:=T;simp only[]at hok ⊢
   cases he:eqI e 0 with
   |false=>rfl
   |true=>
    rw[cF,lβ]at he;obtain⟨hn0,hn1⟩:=hok.2 he;obtain⟨j,rfl⟩:=Int.eq_ofNat_of_zero_le (Int.le_of_lt hn0);have hj0:0<j:=by omega
    have hj1:j≤(c::r).length:=Int.ofNat_le.1 hn1;have e1:(i:Int)+(j:Int)=((i+j:Nat):Int):=by omega
    have w1:aj .i64 ((i:Int)+(j:Int))=((i+j:Nat):Int):=by rw[e1,gm (by omega) (by omega)]
    have hd:s.drop (i+j)=(c::r).drop j:=by rw[←hs,mκ]
    have htk2:List.take (s.length - (i+j)) ((c::r).drop j)=(c::r).drop j:=by rw[←hd,ot]
    have hsk:=qh false ((c::r).drop j);rw[lτ]at hsk;have hS:=Ir (m:=m) ((c::r).drop j) (hbt.drop j) (by rw[lτ];omega) (by rw[lτ];omega);have hT2:Tk.r T=⟨T.k,T.s,T.n,T.a⟩:=rfl;simp only[Bool.not_true,aQ,cond_false,lθ,Nat.beq_refl,show ∀x:Nat,Nat.beq x x=true from fun x=>Nat.beq_refl x,aR,dK (show acc.length+List.length [Da.agg [Da.int .i64 T.r.Kind,Da.str T.r.Text,Da.int .i64 T.r.Num,Da.int .i64 (i:Int)]]<1000000001 by simp only[List.length_singleton];omega) (show 40≤1000 by decide),w1,oz (show(0:Int)≤((i+j:Nat):Int) by omega),oz (show((i+j:Nat):Int)≤(s.length:Int) by omega),Int.toNat_natCast,hd,htk2,aa hS,aJ,aS,aM]
    have e2:((i+j:Nat):Int)+(fb false ((c::r).drop j):Int)=((i+(j+fb false ((c::r).drop j)):Nat):Int):=by omega
    rw[e2,gm (by omega) (by omega)];have:=ih ((c::r).drop (j+fb false ((c::r).drop j))) (i+(j+fb false ((c::r).drop j))) q (acc++[{T with a:=(i:Int)}]) (by rw[lτ];omega) (by rw[←mκ,hs]) (by omega) (by rw[lπ,List.length_singleton];omega) (by omega);rw[List.map_append,lπ]at this;rw[lπ,lθ];exact this
theorem zJ {m:Nat}(s:List Nat)(hb:By s)(hl:s.length<1000000)(hm:s.length+50≤m):evFn lay0.tab m 13 [.p (.str s)] []=some (JK (eI s),[]):=by
 replace hm:=aO hm;obtain⟨m,rfl,hm⟩:=hm;apply Kf m s;unfold si eI;cases bo 6000 (s.length:Int)with
 |true=>rfl
 |false=>
  rw[aQ,cond_false];simp only[aa (Ir (m:=m) s hb hl (by omega)),aJ,aS,aM];have hsk:=qh false s;have:=Q5 (m:=m) s hb hl (by omega) s.length (s.drop (fb false s)) (fb false s) m [] (by rw[lτ];omega) rfl hsk (Nat.zero_le _) (by omega);rw[yQ (s.length+1) m _ _ _ (hb.drop _) (by rw[lτ];omega) (by rw[lτ];omega)];exact this
theorem C4 (s:List Nat)(hb:By s):It (eI s).1∧(eI s).1.length≤s.length:=by
 unfold eI;cases bo 6000 (s.length:Int)with
 |true=>exact⟨fun t ht=>(by cases ht),Nat.zero_le _⟩
 |false=>
  have:=Q2 (s.length+1) (s.drop (fb false s)) (fb false s) [] (hb.drop _) (fun t ht=>by cases ht);rw[cond_false];refine⟨this.1,mρ this.2 ?_⟩;rw[lτ];simp
end
end Go.Ab
end
section
namespace Go.Ab
open Go
set_option maxRecDepth 100000
noncomputable section
theorem ae {α β:Type}{p:PM α}{f:α→PM β}{s:PS}{r:β×PS}(h:p.bnd f s=some r):∃a t,p s=some (a,t)∧f a t=some r:=by
 unfold PM.bnd at h;cases hp:p s with
 |none=>rw[hp]at h;cases h
 |some x=>rw[hp]at h;exact⟨x.1,x.2,rfl,h⟩
theorem bb {α:Type}{g:PS→α×PS}{s:PS}{r:α×PS}(h:lf g s=some r):s.sz=true∧g s=r:=by
 unfold lf at h;cases hz:s.sz with
 |false=>rw[hz]at h;cases h
 |true=>rw[hz]at h;exact⟨rfl,Option.some.inj h⟩
theorem aH {α:Type}{c:PS→Bool}{p q:PM α}{s:PS}{r:α×PS}(h:cnd c p q s=some r):s.sz=true∧(c s=true∧p s=some r∨c s=false∧q s=some r):=by
 unfold cnd at h;cases hz:s.sz with
 |false=>rw[hz]at h;cases h
 |true=>
  rw[hz,cond_true]at h;cases hc:c s with
  |false=>rw[hc]at h;exact⟨rfl,.inr ⟨rfl,h⟩⟩
  |true=>rw[hc]at h;exact⟨rfl,.inl ⟨rfl,h⟩⟩
theorem bx {α:Type}{p q:PM α}{s:PS}{r:α×PS}(h:cok p q s=some r):s.ok=true∧p s=some r∨s.ok=false∧q s=some r:=by
 unfold cok at h;cases hc:s.ok with
 |false=>rw[hc]at h;exact .inr ⟨rfl,h⟩
 |true=>rw[hc]at h;exact .inl ⟨rfl,h⟩
theorem dR {α:Type}{l:List (List Nat)}{p:PM α}{f:List Nat→PM α}{s:PS}{r:α×PS}(h:fnO l p f s=some r):s.sz=true∧(l.find? s.is=none∧p s=some r∨∃o,l.find? s.is=some o∧f o s=some r):=by
 unfold fnO at h;cases hz:s.sz with
 |false=>rw[hz]at h;cases h
 |true=>
  rw[hz,cond_true]at h;cases hc:l.find? s.is with
  |none=>rw[hc]at h;exact⟨rfl,.inl ⟨rfl,h⟩⟩
  |some o=>rw[hc]at h;exact⟨rfl,.inr ⟨o,rfl,h⟩⟩
theorem aF {α:Type}{a b:α}{s t:PS}(h:PM.ret a s=some (b,t)):a=b∧s=t:=by
 unfold PM.ret at h;injection h with h;injection h with h1 h2;exact⟨h1,h2⟩
theorem oq {s:PS}(h:s.sz=true):s.ps≤s.tk.length∧s.tk.length<1000000∧∀t∈s.tk,By t.s:=by
 unfold PS.sz at h;simp only[lγ,lβ,mζ]at h;exact⟨h.1,h.2.1,h.2.2⟩
theorem JH (s:PS)(i:Nat):fq (s.tk.map Tk.e) (i:Int)=(s.tk[i]?).map Tk.e:=by rw[cR,lO]
theorem jS {s:PS}(h:s.sz=true)(i:Nat)(hp:(s.peek i).k≠0):s.ps+i<s.tk.length:=by
 unfold PS.peek at hp;by_cases hl:s.ps+i<s.tk.length
 ·exact hl
 ·rw[lε (by omega)]at hp;exact absurd (by cases s.ok<;>rfl) hp
theorem dG {s:PS}(h:s.sz=true){x:List Nat}(hp:s.is x=true):s.ps<s.tk.length:=by
 refine jS h 0 fun e=>?_
 unfold PS.is at hp;rw[e]at hp;cases hp
theorem Mf {s:PS}(h:s.sz=true)(hp:s.ps<s.tk.length):aj .i64 ((s.ps:Int)+1)=((s.ps+1:Nat):Int):=wS (by have:=oq h;unfold fA;omega)
theorem jR {α β:Type}(f:α→β)(l:List α):((l.map f).length:Int)=(l.length:Int):=by rw[lθ]
theorem fS {m:Nat}(s:PS)(hm:1≤m):evFn lay0.tab m 42 [.box 0 0] s.A.hp=some (.p (.bool s.ok),s.A.hp):=by
 replace hm:=aO hm;obtain⟨m,rfl,hm⟩:=hm;apply Vb m s.A;rfl
theorem fR {m:Nat}(s:PS)(e:Int)(hm:1≤m):evFn lay0.tab m 44 [.box 0 0,.p (.int .i64 e)] s.A.hp=some (.tup [],(s.fail e).A.hp):=by
 replace hm:=aO hm;obtain⟨m,rfl,hm⟩:=hm;apply M4 m s.A e;unfold vX PS.fail;show iL (!s.ok) _ (iL (bo (s.ps:Int) ((s.tk.map Tk.e).length:Int)) (cL (fq (s.tk.map Tk.e) (s.ps:Int)) _) _)=_;cases s.ok with
 |false=>rfl
 |true=>
  rw[jR,JH];by_cases h:s.ps<s.tk.length
  ·rw[ue (by omega),lδ h];rfl
  ·rw[Df (by omega),lε (by omega)];rfl
theorem iV {m:Nat}(s:PS)(i:Nat)(hi:i<1000)(hz:s.sz=true)(hm:60≤m):evFn lay0.tab m 73 [.box 0 0,.p (.int .i64 (i:Int))] s.A.hp=some (.p (s.peek i).e,s.A.hp):=by
 replace hm:=aO hm;obtain⟨m,rfl,hm⟩:=hm;obtain⟨h1,h2,h3⟩:=oq hz;apply Nb m s.A i;unfold we PS.peek;simp only[aa (fS (m:=m) s (by omega)),aJ,aq,b6];cases s.ok with
 |false=>rfl
 |true=>
  have hat:fq s.A.tk (aj .i64 (s.A.ps+(i:Int)))=(s.tk[s.ps+i]?).map Tk.e:=by
   show fq (s.tk.map Tk.e) (aj .i64 ((s.ps:Int)+(i:Int)))=_;rw[show(s.ps:Int)+(i:Int)=((s.ps+i:Nat):Int) by omega,gm (by omega) (by omega),JH]
  have hle:bh (s.A.tk.length:Int) (aj .i64 (s.A.ps+(i:Int)))=bh (s.tk.length:Int) ((s.ps+i:Nat):Int):=by
   show bh ((s.tk.map Tk.e).length:Int) (aj .i64 ((s.ps:Int)+(i:Int)))=_;rw[show(s.ps:Int)+(i:Int)=((s.ps+i:Nat):Int) by omega,gm (by omega) (by omega),jR]
  simp only[Bool.not_true,aQ,hle,hat,cond_true];by_cases h:s.ps+i<s.tk.length
  ·rw[Ys (by omega),lδ h,aQ];have hb:=h3 _ (mπ h);have hp:=zH (m:=m) s.tk[s.ps+i] hb (by omega);have hp':evFn lay0.tab m 99 [.p (Tk.r s.tk[s.ps+i]).e] []=some (.p (.bool (bZ s.tk[s.ps+i])),[]):=hp;simp only[Option.map_some,dL,xa,aa hp',aJ,aq,aM,cond_true];cases bZ s.tk[s.ps+i]<;>rfl
  ·rw[oz (by omega),lε (by omega)];rfl
theorem gw {m:Nat}(s:PS)(x:List Nat)(hz:s.sz=true)(hm:61≤m):evFn lay0.tab m 43 [.box 0 0,.p (.str x)] s.A.hp=some (.p (.bool (s.is x)),s.A.hp):=by
 replace hm:=aO hm;obtain⟨m,rfl,hm⟩:=hm;apply U8 m s.A x;unfold Gi PS.is;have hp:=iV (m:=m) s 0 (by decide) hz hm;simp only[show((0:Nat):Int)=0 from rfl]at hp;simp only[aa hp,aJ,xa,b6];show iL (eqI (s.peek 0).k 2) _ (iL (eqI (s.peek 0).k 5) _ _)=_;cases eqI (s.peek 0).k 2<;>cases eqI (s.peek 0).k 5<;>rfl
theorem cY {m:Nat}(s:PS)(x:List Nat)(hz:s.sz=true)(hm:62≤m):evFn lay0.tab m 100 [.box 0 0,.p (.str x)] s.A.hp=some (.p (.bool (s.is x)),(bif s.is x then s.up else s).A.hp):=by
 replace hm:=aO hm;obtain⟨m,rfl,hm⟩:=hm;apply Gx m s.A x;unfold oT;simp only[aa (gw (m:=m) s x hz hm),aJ,aq,b6];cases hx:s.is x with
 |false=>rfl
 |true=>
  show some (_,bm.hp {s.A with ps:=aj .i64 ((s.ps:Int)+1)})=_;rw[Mf hz (dG hz hx)];rfl
theorem oS {m:Nat}(s:PS)(x:List Nat)(hz:s.sz=true)(hm:63≤m):evFn lay0.tab m 74 [.box 0 0,.p (.str x)] s.A.hp=some (.tup [],(s.exp x).A.hp):=by
 replace hm:=aO hm;obtain⟨m,rfl,hm⟩:=hm;apply GD m s.A x;unfold oZ PS.exp;simp only[aa (cY (m:=m) s x hz hm),aJ,aq,b6];cases hx:s.is x with
 |false=>simp only[Bool.not_false,aR,cond_false,aa (fR (m:=m) s 13 (by omega)),bc,aM,b6]
 |true=>rfl
theorem ME {m:Nat}(s:PS)(k:Int)(hk:k≠0)(hz:s.sz=true)(hm:62≤m):evFn lay0.tab m 101 [.box 0 0,.p (.int .i64 k)] s.A.hp=some (.p (s.take k).1.e,(s.take k).2.A.hp):=by
 replace hm:=aO hm;obtain⟨m,rfl,hm⟩:=hm;apply Ng m s.A k;unfold wj PS.take;have hp:=iV (m:=m) s 0 (by decide) hz (by omega);simp only[show((0:Nat):Int)=0 from rfl]at hp;simp only[aa hp,aJ,xa,b6,show(s.peek 0).r.Kind=(s.peek 0).k from rfl,aa (fR (m:=m) s 13 (by omega)),bc,aM];cases hx:eqI (s.peek 0).k k with
 |false=>rfl
 |true=>
  rw[cF,lβ]at hx;show some (_,bm.hp {s.A with ps:=aj .i64 ((s.ps:Int)+1)})=_;rw[Mf hz (jS hz 0 (by rw[hx];exact hk))];rfl
theorem MA {m:Nat}(s:PS)(hz:s.sz=true)(hm:63≤m):evFn lay0.tab m 75 [.box 0 0] s.A.hp=some (.p (.str (s.take 1).1.s),(s.take 1).2.A.hp):=by
 replace hm:=aO hm;obtain⟨m,rfl,hm⟩:=hm;apply M9 m s.A;unfold wc;simp only[aa (ME (m:=m) s 1 (by decide) hz hm),aJ,xa,b6];rfl
theorem My {m:Nat}(s:PS)(hz:s.sz=true)(hm:80≤m):evFn lay0.tab m 102 [.box 0 0] s.A.hp=some (.p (.int .i64 (eX kindL 1 s).1),(eX kindL 1 s).2.A.hp):=by
 replace hm:=aO hm;obtain⟨m,rfl,hm⟩:=hm;apply M7 m s.A;unfold wa;replace hm:∃k,m=k+7∧72≤k:=⟨m - 7,by omega,by omega⟩
 obtain⟨m,rfl,hm⟩:=hm;have ha:=fun x=>cY (m:=m+7) s x hz (by omega)
 simp only[Dz,lH,show aj .i64 (0+1)=1 from rfl,show aj .i64 (1+1)=2 from rfl,show aj .i64 (2+1)=3 from rfl,show aj .i64 (3+1)=4 from rfl,show aj .i64 (4+1)=5 from rfl,
  show bo 0 5=true from rfl,show bo 1 5=true from rfl,show bo 2 5=true from rfl,show bo 3 5=true from rfl,show bo 4 5=true from rfl,show bo 5 5=false from rfl,show bh 0 0=true from rfl,show bh 0 1=true from rfl,show bh 0 2=true from rfl,show bh 0 3=true from rfl,show bh 0 4=true from rfl,aR,aQ,
  show((5:Nat):Int)=5 from rfl,show Int.toNat 0=0 from rfl,show Int.toNat 1=1 from rfl,show Int.toNat 2=2 from rfl,show Int.toNat 3=3 from rfl,show Int.toNat 4=4 from rfl,List.getElem?_cons_zero,List.getElem?_cons_succ,dL,ig,aa (ha _),aJ,aq,b6]
 unfold kindL;simp only[eX];cases h1:s.is [105,110,116]with
 |true=>rfl
 |false=>
  simp only[aQ,cond_false];simp only[aa (ha _),aJ,aq,b6];cases h2:s.is [98,111,111,108]with
  |true=>rfl
  |false=>
   simp only[aQ,cond_false];simp only[aa (ha _),aJ,aq,b6];cases h3:s.is [115,116,114,105,110,103]with
   |true=>rfl
   |false=>
    simp only[aQ,cond_false];simp only[aa (ha _),aJ,aq,b6];cases h4:s.is [105,110,116,115]with
    |true=>rfl
    |false=>
     simp only[aQ,cond_false];simp only[aa (ha _),aJ,aq,b6];cases h5:s.is [115,116,114,105,110,103,115]with
     |true=>rfl
     |false=>
      simp only[aQ,cond_false,aa (fR (m:=m+7) s 13 (by omega)),bc,aM,b6]
theorem mA {m:Nat}(s:PS)(hm:1≤m):evFn lay0.tab m 42 [.box 0 0] s.B.hp=some (.p (.bool s.ok),s.B.hp):=by
 replace hm:=aO hm;obtain⟨m,rfl,hm⟩:=hm;apply Vc m s.B;rfl
theorem cQ {m:Nat}(s:PS)(e:Int)(hm:1≤m):evFn lay0.tab m 44 [.box 0 0,.p (.int .i64 e)] s.B.hp=some (.tup [],(s.fail e).B.hp):=by
 replace hm:=aO hm;obtain⟨m,rfl,hm⟩:=hm;apply M5 m s.B e;unfold vY PS.fail;show iL (!s.ok) _ (iL (bo (s.ps:Int) ((s.tk.map Tk.e).length:Int)) (cL (fq (s.tk.map Tk.e) (s.ps:Int)) _) _)=_;cases s.ok with
 |false=>rfl
 |true=>
  rw[jR,JH];by_cases h:s.ps<s.tk.length
  ·rw[ue (by omega),lδ h];rfl
  ·rw[Df (by omega),lε (by omega)];rfl
theorem iW {m:Nat}(s:PS)(i:Nat)(hi:i<1000)(hz:s.sz=true)(hm:60≤m):evFn lay0.tab m 73 [.box 0 0,.p (.int .i64 (i:Int))] s.B.hp=some (.p (s.peek i).e,s.B.hp):=by
 replace hm:=aO hm;obtain⟨m,rfl,hm⟩:=hm;obtain⟨h1,h2,h3⟩:=oq hz;apply Nc m s.B i;unfold wg PS.peek;simp only[aa (mA (m:=m) s (by omega)),aJ,aq,fD];cases s.ok with
 |false=>rfl
 |true=>
  have hat:fq s.B.tk (aj .i64 (s.B.ps+(i:Int)))=(s.tk[s.ps+i]?).map Tk.e:=by
   show fq (s.tk.map Tk.e) (aj .i64 ((s.ps:Int)+(i:Int)))=_;rw[show(s.ps:Int)+(i:Int)=((s.ps+i:Nat):Int) by omega,gm (by omega) (by omega),JH]
  have hle:bh (s.B.tk.length:Int) (aj .i64 (s.B.ps+(i:Int)))=bh (s.tk.length:Int) ((s.ps+i:Nat):Int):=by
   show bh ((s.tk.map Tk.e).length:Int) (aj .i64 ((s.ps:Int)+(i:Int)))=_;rw[show(s.ps:Int)+(i:Int)=((s.ps+i:Nat):Int) by omega,gm (by omega) (by omega),jR]
  simp only[Bool.not_true,aQ,hle,hat,cond_true];by_cases h:s.ps+i<s.tk.length
  ·rw[Ys (by omega),lδ h,aQ];have hb:=h3 _ (mπ h);have hp:=zH (m:=m) s.tk[s.ps+i] hb (by omega);have hp':evFn lay0.tab m 99 [.p (Tk.r s.tk[s.ps+i]).e] []=some (.p (.bool (bZ s.tk[s.ps+i])),[]):=hp;simp only[Option.map_some,dL,xa,aa hp',aJ,aq,aM,cond_true];cases bZ s.tk[s.ps+i]<;>rfl
  ·rw[oz (by omega),lε (by omega)];rfl
theorem lb {m:Nat}(s:PS)(x:List Nat)(hz:s.sz=true)(hm:61≤m):evFn lay0.tab m 43 [.box 0 0,.p (.str x)] s.B.hp=some (.p (.bool (s.is x)),s.B.hp):=by
 replace hm:=aO hm;obtain⟨m,rfl,hm⟩:=hm;apply U9 m s.B x;unfold Gj PS.is;have hp:=iW (m:=m) s 0 (by decide) hz hm;simp only[show((0:Nat):Int)=0 from rfl]at hp;simp only[aa hp,aJ,xa,fD];show iL (eqI (s.peek 0).k 2) _ (iL (eqI (s.peek 0).k 5) _ _)=_;cases eqI (s.peek 0).k 2<;>cases eqI (s.peek 0).k 5<;>rfl
theorem eq {m:Nat}(s:PS)(x:List Nat)(hz:s.sz=true)(hm:62≤m):evFn lay0.tab m 100 [.box 0 0,.p (.str x)] s.B.hp=some (.p (.bool (s.is x)),(bif s.is x then s.up else s).B.hp):=by
 replace hm:=aO hm;obtain⟨m,rfl,hm⟩:=hm;apply Gy m s.B x;unfold oU;simp only[aa (lb (m:=m) s x hz hm),aJ,aq,fD];cases hx:s.is x with
 |false=>rfl
 |true=>
  show some (_,bD.hp {s.B with ps:=aj .i64 ((s.ps:Int)+1)})=_;rw[Mf hz (dG hz hx)];rfl
theorem F4 {m:Nat}(s:PS)(x:List Nat)(hz:s.sz=true)(hm:63≤m):evFn lay0.tab m 74 [.box 0 0,.p (.str x)] s.B.hp=some (.tup [],(s.exp x).B.hp):=by
 replace hm:=aO hm;obtain⟨m,rfl,hm⟩:=hm;apply GE m s.B x;unfold pa PS.exp;simp only[aa (eq (m:=m) s x hz hm),aJ,aq,fD];cases hx:s.is x with
 |false=>simp only[Bool.not_false,aR,cond_false,aa (cQ (m:=m) s 13 (by omega)),bc,aM,fD]
 |true=>rfl
theorem qm {m:Nat}(s:PS)(k:Int)(hk:k≠0)(hz:s.sz=true)(hm:62≤m):evFn lay0.tab m 101 [.box 0 0,.p (.int .i64 k)] s.B.hp=some (.p (s.take k).1.e,(s.take k).2.B.hp):=by
 replace hm:=aO hm;obtain⟨m,rfl,hm⟩:=hm;apply Nh m s.B k;unfold wk PS.take;have hp:=iW (m:=m) s 0 (by decide) hz (by omega);simp only[show((0:Nat):Int)=0 from rfl]at hp;simp only[aa hp,aJ,xa,fD,show(s.peek 0).r.Kind=(s.peek 0).k from rfl,aa (cQ (m:=m) s 13 (by omega)),bc,aM];cases hx:eqI (s.peek 0).k k with
 |false=>rfl
 |true=>
  rw[cF,lβ]at hx;show some (_,bD.hp {s.B with ps:=aj .i64 ((s.ps:Int)+1)})=_;rw[Mf hz (jS hz 0 (by rw[hx];exact hk))];rfl
theorem MB {m:Nat}(s:PS)(hz:s.sz=true)(hm:63≤m):evFn lay0.tab m 75 [.box 0 0] s.B.hp=some (.p (.str (s.take 1).1.s),(s.take 1).2.B.hp):=by
 replace hm:=aO hm;obtain⟨m,rfl,hm⟩:=hm;apply Na m s.B;unfold wd;simp only[aa (qm (m:=m) s 1 (by decide) hz hm),aJ,xa,fD];rfl
theorem Mz {m:Nat}(s:PS)(hz:s.sz=true)(hm:80≤m):evFn lay0.tab m 102 [.box 0 0] s.B.hp=some (.p (.int .i64 (eX kindL 1 s).1),(eX kindL 1 s).2.B.hp):=by
 replace hm:=aO hm;obtain⟨m,rfl,hm⟩:=hm;apply M8 m s.B;unfold wb;replace hm:∃k,m=k+7∧72≤k:=⟨m - 7,by omega,by omega⟩
 obtain⟨m,rfl,hm⟩:=hm;have ha:=fun x=>eq (m:=m+7) s x hz (by omega)
 simp only[DA,lI,show aj .i64 (0+1)=1 from rfl,show aj .i64 (1+1)=2 from rfl,show aj .i64 (2+1)=3 from rfl,show aj .i64 (3+1)=4 from rfl,show aj .i64 (4+1)=5 from rfl,
  show bo 0 5=true from rfl,show bo 1 5=true from rfl,show bo 2 5=true from rfl,show bo 3 5=true from rfl,show bo 4 5=true from rfl,show bo 5 5=false from rfl,show bh 0 0=true from rfl,show bh 0 1=true from rfl,show bh 0 2=true from rfl,show bh 0 3=true from rfl,show bh 0 4=true from rfl,aR,aQ,
  show((5:Nat):Int)=5 from rfl,show Int.toNat 0=0 from rfl,show Int.toNat 1=1 from rfl,show Int.toNat 2=2 from rfl,show Int.toNat 3=3 from rfl,show Int.toNat 4=4 from rfl,List.getElem?_cons_zero,List.getElem?_cons_succ,dL,ig,aa (ha _),aJ,aq,fD]
 unfold kindL;simp only[eX];cases h1:s.is [105,110,116]with
 |true=>rfl
 |false=>
  simp only[aQ,cond_false];simp only[aa (ha _),aJ,aq,fD];cases h2:s.is [98,111,111,108]with
  |true=>rfl
  |false=>
   simp only[aQ,cond_false];simp only[aa (ha _),aJ,aq,fD];cases h3:s.is [115,116,114,105,110,103]with
   |true=>rfl
   |false=>
    simp only[aQ,cond_false];simp only[aa (ha _),aJ,aq,fD];cases h4:s.is [105,110,116,115]with
    |true=>rfl
    |false=>
     simp only[aQ,cond_false];simp only[aa (ha _),aJ,aq,fD];cases h5:s.is [115,116,114,105,110,103,115]with
     |true=>rfl
     |false=>
      simp only[aQ,cond_false,aa (cQ (m:=m+7) s 13 (by omega)),bc,aM,fD]
theorem tK {m:Nat}{s t:PS}{n:Int}(h:pInt s=some (n,t))(hm:65≤m):evFn lay0.tab m 118 [.box 0 0] s.B.hp=some (.p (.int .i64 n),t.B.hp):=by
 replace hm:=aO hm;obtain⟨m,rfl,hm⟩:=hm;apply DD m s.B;unfold mD;obtain⟨hz,h⟩:=aH h;simp only[aa (eq (m:=m) s _ hz (by omega)),aJ,aq,fD];rcases h with⟨hc,h⟩|⟨hc,h⟩
 ·obtain⟨_,s1,h1,h⟩:=ae h;obtain⟨-,h1⟩:=bb h1;injection h1 with _ h1;subst h1;obtain⟨k,s2,h2,h⟩:=ae h;obtain⟨hz2,h2⟩:=bb h2;obtain⟨rfl,rfl⟩:=aF h;simp only[hc,cond_true,aR,aa (qm (m:=m) s.up 3 (by decide) hz2 (by omega)),aJ,xa,fD,h2];rfl
 ·obtain⟨k,s2,h2,h⟩:=ae h;obtain⟨hz2,h2⟩:=bb h2;obtain⟨rfl,rfl⟩:=aF h;simp only[hc,cond_false,aQ,aa (qm (m:=m) s 3 (by decide) hz2 (by omega)),aJ,xa,fD,h2];rfl
end
end Go.Ab
end
section
namespace Go.Ab
open Go
set_option maxRecDepth 100000
noncomputable section
theorem uY {m:Nat}(s:PS)(x:List Nat)(hz:s.sz=true)(hm:65≤m):evFn lay0.tab m 121 [.box 0 0,.p (.str x)] s.A.hp=some (.tup [],(s.open x).A.hp):=by
 replace hm:=aO hm;obtain⟨m,rfl,hm⟩:=hm;apply RH m s.A x;unfold Bg PS.open PS.opn1 nZ;have e:=fun(s:PS) (hz:s.sz=true)=>oS (m:=m) s x hz (by omega)
 have hf:(s.fail 5).sz=true:=by
  unfold PS.fail;cases s.ok<;>exact hz
 simp only[aa (gw (m:=m) s x hz (by omega)),aJ,aq,b6,aa (fR (m:=m) s 5 (by omega)),bc,aM,aa (e s hz),aa (e _ hf),show s.A.ne=s.ne from rfl];cases s.is x<;>cases eqI s.ne 24<;>rfl
theorem vL {m:Nat}(s:PS)(x:List Nat)(hz:s.sz=true)(hm:65≤m):evFn lay0.tab m 124 [.box 0 0,.p (.str x)] s.A.hp=some (.tup [],(s.close x).A.hp):=by
 replace hm:=aO hm;obtain⟨m,rfl,hm⟩:=hm;apply M2 m s.A x;unfold vV PS.close;simp only[aa (oS (m:=m) s x hz (by omega)),bc,aM,b6];rfl
theorem jJ {x:No}{s t:PS}{i:Int}(h:ea x s=some (i,t)):s.nd.length<1000000∧x.kids.length<1000000∧s.add x=(i,t):=by
 unfold ea at h;cases hb:(decide (s.nd.length<1000000)&&decide (x.kids.length<1000000))with
 |false=>rw[hb]at h;cases h
 |true=>
  rw[hb]at h;rw[lγ,lβ,lβ]at hb;exact⟨hb.1,hb.2,Option.some.inj h⟩
theorem k9 {m:Nat}{s t:PS}{x:No}{i:Int}(h:ea x s=some (i,t))(hm:2≤m):evFn lay0.tab m 123 [.box 0 0,.p x.e] s.A.hp=some (.p (.int .i64 i),t.A.hp):=by
 replace hm:=aO hm;obtain⟨m,rfl,hm⟩:=hm;obtain⟨h1,h2,h3⟩:=jJ h;apply U6 m s.A x.r;unfold Gf;simp only[aa (fS (m:=m) s hm),aJ,aq,b6];unfold PS.add at h3;cases hk:s.ok with
 |false=>
  rw[hk,cond_false]at h3;injection h3 with h3 h4;subst h3 h4;rfl
 |true=>
  rw[hk,cond_true]at h3;injection h3 with h3 h4;subst h3 h4;have hl:s.A.no.length=s.nd.length:=lθ ..
  have hb:Nat.beq s.A.nd s.A.no.length=true:=by rw[hl];exact Nat.beq_refl _
  simp only[Bool.not_true,aQ,hb,aR];rw[dK (by rw[hl];show s.nd.length+1<_;omega) (by decide),aR];have e1:(s.A.no++[Da.agg [Da.int .i64 x.r.Op,Da.str x.r.Name,Da.int .i64 x.r.Value_Kind,Da.int .i64 x.r.Value_N,Da.str x.r.Value_S,Da.slice 1 x.r.Value_I,Da.slice 1 x.r.Value_L,Da.slice 1 x.r.Kids]])=(s.nd++[x]).map No.e:=by
   rw[List.map_append];rfl
  rw[e1,lθ,lπ,List.length_singleton];have e2:aj .i64 (((s.nd.length+1:Nat):Int) - 1)=(s.nd.length:Int):=by
   rw[show((s.nd.length+1:Nat):Int) - 1=(s.nd.length:Int) by omega,gm (by omega) (by omega)]
  rw[e2];show some (_,bm.hp ⟨_,_,_,_,_,_,_,s.nd.length+1,(s.nd++[x]).map No.e⟩)=some (_,bm.hp ⟨_,_,_,_,_,_,_,(s.nd++[x]).length,(s.nd++[x]).map No.e⟩);rw[lπ,List.length_singleton];rfl
def PS.K (s:PS)(l:List Da):Gv:=⟨s.tk.map Tk.e,s.ps,s.en,s.aT,s.er,s.ne,s.tt,s.nd.length,l,s.nd.map No.e⟩
def PS.D (s:PS)(l:List Da):Mk:=⟨s.tk.map Tk.e,s.ps,s.en,s.aT,s.er,s.ne,s.tt,s.nd.length,l,s.nd.map No.e⟩
theorem YL (c:Mk)(K:Mk→R):tU c.hp K=K c:=rfl
theorem Rn {m:Nat}{s t:PS}{op:Int}{nm tx:List Nat}{l:List Int}{i:Int}(h:ea ⟨op,nm,⟨0,0,tx,[],[]⟩,l⟩ s=some (i,t))(hm:2≤m):
  evFn lay0.tab m 123 [.box 0 0,.agg [.p (.int .i64 op),.p (.str nm),.p (.int .i64 0),.p (.int .i64 0),.p (.str tx),.p (.slice 1 []),.p (.slice 1 []),.arr 1 0 l.length 1]] (s.K (l.map iE)).hp=some (.p (.int .i64 i),(t.D (l.map iE)).hp):=by
 replace hm:=aO hm;obtain⟨m,rfl,hm⟩:=hm;obtain⟨h1,h2,h3⟩:=jJ h;apply RD m (s.K (l.map iE)) op nm tx l.length;unfold Bc;have ho:evFn lay0.tab m 42 [.box 0 0] (bm.mk (s.K (l.map iE)).tk (s.K (l.map iE)).ps (s.K (l.map iE)).en (s.K (l.map iE)).aT (s.K (l.map iE)).er (s.K (l.map iE)).ne (s.K (l.map iE)).tt (s.K (l.map iE)).nd (s.K (l.map iE)).no).hp=some (.p (.bool s.ok),s.A.hp):=fS (m:=m) s hm;simp only[aa ho,aJ,aq,b6];unfold PS.add at h3;cases hk:s.ok with
 |false=>
  rw[hk,cond_false]at h3;injection h3 with h3 h4;subst h3 h4;rfl
 |true=>
  rw[hk,cond_true]at h3;injection h3 with h3 h4;subst h3 h4;have hl:s.A.no.length=s.nd.length:=lθ ..
  have hb:Nat.beq s.A.nd s.A.no.length=true:=by rw[hl];exact Nat.beq_refl _
  simp only[Bool.not_true,aQ,hb,aR];rw[dK (by rw[hl];show s.nd.length+1<_;omega) (by decide),aR];have e0:List.take l.length (List.drop 0 (s.K (l.map iE)).kl)=l.map iE:=by
   show List.take l.length (List.drop 0 (l.map iE))=_;rw[List.drop_zero,mσ (by rw[lθ];omega)]
  rw[e0];have e1:(s.A.no++[Da.agg [Da.int .i64 op,Da.str nm,Da.int .i64 0,Da.int .i64 0,Da.str tx,Da.slice 1 [],Da.slice 1 [],Da.slice 1 (l.map iE)]])=(s.nd++[(⟨op,nm,⟨0,0,tx,[],[]⟩,l⟩:No)]).map No.e:=by
   rw[List.map_append];rfl
  rw[e1,lθ,lπ,List.length_singleton];have e2:aj .i64 (((s.nd.length+1:Nat):Int) - 1)=(s.nd.length:Int):=by
   rw[show((s.nd.length+1:Nat):Int) - 1=(s.nd.length:Int) by omega,gm (by omega) (by omega)]
  rw[e2];show some (_,Mk.hp ⟨_,_,_,_,_,_,_,s.nd.length+1,_,(s.nd++[(⟨op,nm,⟨0,0,tx,[],[]⟩,l⟩:No)]).map No.e⟩)=some (_,Mk.hp ⟨_,_,_,_,_,_,_,(s.nd++[(⟨op,nm,⟨0,0,tx,[],[]⟩,l⟩:No)]).length,_,(s.nd++[(⟨op,nm,⟨0,0,tx,[],[]⟩,l⟩:No)]).map No.e⟩);rw[lπ,List.length_singleton];rfl
theorem JQ {m:Nat}(s:PS)(hz:s.sz=true)(hm:65≤m):evFn lay0.tab m 153 [.box 0 0] s.A.hp=some (.p (.bool s.begins),s.A.hp):=by
 replace hm:=aO hm;obtain⟨m,rfl,hm⟩:=hm;apply J7 m s.A;unfold sa PS.begins jG mT beginL;have hp:=iV (m:=m) s 0 (by decide) hz (by omega);simp only[show((0:Nat):Int)=0 from rfl]at hp;have hk:(s.peek 0).r.Kind=(s.peek 0).k:=rfl;have ht:(s.peek 0).r.Text=(s.peek 0).s:=rfl;simp only[aa hp,aJ,xa,b6,hk,ht,List.any_cons,List.any_nil,Bool.or_false];generalize s.A.hp=hp0;generalize(s.peek 0).k=k;generalize(s.peek 0).s=tx;cases eqI k 1
 ·cases eqI k 3
  ·cases eqI k 4
   ·cases eqI k 2<;>cases eqI k 5<;>cases cp tx [116,114,117,101]<;>cases cp tx [102,97,108,115,101]<;>cases cp tx [115,101,108,102]<;>cases cp tx [105,110,116,115]<;>cases cp tx [115,116,114,105,110,103,115]<;>cases cp tx [40]<;>cases cp tx [45]<;>cases cp tx [33]<;>rfl
   ·rfl
  ·rfl
 ·rfl
theorem fQ {m:Nat}(s:PS)(l:List (List Nat))(hl:l.length<1000)(hz:s.sz=true)(hm:l.length+70≤m):evFn lay0.tab m 155 [.p (.slice 1 (l.map .str)),.fn 1000100 [.box 0 0]] s.A.hp=
  some (.p (.int .i64 (match l.findIdx? s.is with|some j=>(j:Int)|none=> -1)),(match l.findIdx? s.is with|some j=>s.up|none=>s).A.hp):=by
 replace hm:=aO hm;obtain⟨m,rfl,hm⟩:=hm;apply Bz m s.A (l.map .str);unfold ld;rw[lθ];refine(iS l (fun q i=>fT _ m _ _ q (l.map .str,(l.length:Int),i,s.A)) s.is (fun i=>some (.p (.int .i64 i),s.up.A.hp)) (some (.p (.int .i64 (-1)),s.A.hp)) (fun q i hi=>?_) (fun q=>?_) (by omega)).trans ?_
 ·rw[md];simp only[eA,ue (show((i:Int)<(l.length:Int)) by omega),aR,cR,ji,jf hi,dL,ig,wS (show i<fA by unfold fA;omega),aa (cY (m:=m) s l[i] hz (by omega)),aJ,aq,b6];cases s.is l[i]<;>rfl
 ·rw[md];simp only[eA,oA,aQ]
 ·cases l.findIdx? s.is<;>rfl
theorem xn {α:Type}(p:α→Bool):∀(l:List α),l.find? p=(l.findIdx? p).bind fun j=>l[j]?
 |[]=>rfl
 |x::r=>by
  simp only[qγ,List.find?_cons];cases p x
  ·simp only[Bool.false_eq_true,if_false];rw[xn p r];cases r.findIdx? p<;>rfl
  ·rfl
end
end Go.Ab
end
section
namespace Go.Ab
open Go
set_option maxRecDepth 100000
noncomputable section
def eo (m g:Nat)(p:PM Int):Prop:=∀(s t:PS) (a:Int),p s=some (a,t)→evFn lay0.tab m g [.box 0 0] s.A.hp=some (.p (.int .i64 a),t.A.hp)
theorem kG {α:Type}(l:List α)(p:α→Bool):(l.findIdx? p=none∧l.find? p=none)∨∃j o,l.findIdx? p=some j∧l.find? p=some o∧l[j]?=some o∧p o=true∧j<l.length:=by
 cases h:l.findIdx? p with
 |none=>exact .inl ⟨rfl,by rw[xn,h];rfl⟩
 |some j=>
  obtain⟨hj,hp,-⟩:=mω.1 h;exact .inr ⟨j,l[j],rfl,by rw[xn,h];simp[lδ hj],lδ hj,hp,hj⟩
theorem bJ {s t:PS}{u:Unit}(h:pUp s=some (u,t)):s.sz=true∧s.up=t:=by
 obtain⟨h1,h2⟩:=bb h;injection h2 with _ h2;exact⟨h1,h2⟩
theorem vm:bo (-1) 0=true:=rfl
theorem oH {m:Nat}{ex:PM Int}(hx:eo m 147 ex)(hm:100≤m)(k0:Int×bm→R):∀(q':Nat) (s t:PS) (x a:Int),eF ex [[124,124]] q' x s=some (a,t)→∀Q,q'≤Q→
  L_yleftConj_1 (bv lay0.tab m) m k0 Q ([.str [124,124]],x,s.A)=k0 (a,t.A)
 |0,s,t,x,a,h,Q,hQ=>by cases h
 |q'+1,s,t,x,a,h,Q,hQ=>by
  obtain⟨Q,rfl⟩:∃j,Q=j+1:=⟨Q - 1,by omega⟩
  rw[wG];unfold eF at h;obtain⟨hz,h⟩:=dR h;have hI:=fQ (m:=m) s [[124,124]] (by decide) hz (by simp only[List.length_cons,List.length_nil];omega);simp only[List.map_cons,List.map_nil]at hI;simp only[gQ,aa hI,aJ,aS,b6];rcases kG [[124,124]] s.is with⟨e1,e2⟩|⟨j,o,e1,e2,e3,e4,e5⟩
  ·rcases h with⟨-,h⟩|⟨o',h1,-⟩
   ·obtain⟨rfl,rfl⟩:=aF h;simp only[e1,vm,aR]
   ·rw[e2]at h1;cases h1
  ·rcases h with⟨h1,-⟩|⟨o',h1,h⟩
   ·rw[e2]at h1;cases h1
   ·rw[e2]at h1;cases h1;obtain⟨_,s1,h1,h⟩:=ae h;obtain⟨-,rfl⟩:=bJ h1;obtain⟨y,s2,h2,h⟩:=ae h;obtain⟨z,s3,h3,h⟩:=ae h;have hat:fq [.str [124,124]] (j:Int)=some (Da.str o):=by
     have:fq (List.map Da.str [[124,124]]) (j:Int)=some (Da.str o):=by rw[cR,lO,e3];rfl
     exact this
    have ha:=k9 (m:=m) h3 (by omega);have ha':evFn lay0.tab m 123 [.box 0 0,.p (.agg [(.int .i64 5),(.str o),(.int .i64 0),(.int .i64 0),(.str []),(.slice 1 []),(.slice 1 []),(.slice 1 [Da.int .i64 x,Da.int .i64 y])])] s2.A.hp=some (.p (.int .i64 z),s3.A.hp):=ha;simp only[e1,Df (show ¬(j:Int)<0 by omega),aQ,aa (hx _ _ _ h2),aJ,aS,b6,hat,dL,ig,aa ha'];exact oH hx hm k0 q' s3 t z a h Q (by omega)
theorem Dm {m q:Nat}{ex:PM Int}(hx:eo m 147 ex)(hm:100≤m)(hq:q≤m){s t:PS}{a:Int}(h:gu ex [[124,124]] q s=some (a,t)):
  evFn lay0.tab (m+1) 146 [.box 0 0,.fn 1000147 [.box 0 0],.p (.slice 1 [.str [124,124]])] s.A.hp=some (.p (.int .i64 a),t.A.hp):=by
 apply DE m s.A;unfold mE;obtain⟨x,s1,h1,h⟩:=ae h;simp only[aa (hx _ _ _ h1),aJ,aS,b6];exact oH hx hm _ q s1 t x a h m hq
theorem rg {m:Nat}{ex:PM Int}(hx:eo m 156 ex)(hm:100≤m)(k0:Int×bm→R):∀(q':Nat) (s t:PS) (x a:Int),eF ex [[38,38]] q' x s=some (a,t)→∀Q,q'≤Q→
  L_yleftCmp_1 (bv lay0.tab m) m k0 Q ([.str [38,38]],x,s.A)=k0 (a,t.A)
 |0,s,t,x,a,h,Q,hQ=>by cases h
 |q'+1,s,t,x,a,h,Q,hQ=>by
  obtain⟨Q,rfl⟩:∃j,Q=j+1:=⟨Q - 1,by omega⟩
  rw[y8];unfold eF at h;obtain⟨hz,h⟩:=dR h;have hI:=fQ (m:=m) s [[38,38]] (by decide) hz (by simp only[List.length_cons,List.length_nil];omega);simp only[List.map_cons,List.map_nil]at hI;simp only[iu,aa hI,aJ,aS,b6];rcases kG [[38,38]] s.is with⟨e1,e2⟩|⟨j,o,e1,e2,e3,e4,e5⟩
  ·rcases h with⟨-,h⟩|⟨o',h1,-⟩
   ·obtain⟨rfl,rfl⟩:=aF h;simp only[e1,vm,aR]
   ·rw[e2]at h1;cases h1
  ·rcases h with⟨h1,-⟩|⟨o',h1,h⟩
   ·rw[e2]at h1;cases h1
   ·rw[e2]at h1;cases h1;obtain⟨_,s1,h1,h⟩:=ae h;obtain⟨-,rfl⟩:=bJ h1;obtain⟨y,s2,h2,h⟩:=ae h;obtain⟨z,s3,h3,h⟩:=ae h;have hat:fq [.str [38,38]] (j:Int)=some (Da.str o):=by
     have:fq (List.map Da.str [[38,38]]) (j:Int)=some (Da.str o):=by rw[cR,lO,e3];rfl
     exact this
    have ha:=k9 (m:=m) h3 (by omega);have ha':evFn lay0.tab m 123 [.box 0 0,.p (.agg [(.int .i64 5),(.str o),(.int .i64 0),(.int .i64 0),(.str []),(.slice 1 []),(.slice 1 []),(.slice 1 [Da.int .i64 x,Da.int .i64 y])])] s2.A.hp=some (.p (.int .i64 z),s3.A.hp):=ha;simp only[e1,Df (show ¬(j:Int)<0 by omega),aQ,aa (hx _ _ _ h2),aJ,aS,b6,hat,dL,ig,aa ha'];exact rg hx hm k0 q' s3 t z a h Q (by omega)
theorem F5 {m q:Nat}{ex:PM Int}(hx:eo m 156 ex)(hm:100≤m)(hq:q≤m){s t:PS}{a:Int}(h:gu ex [[38,38]] q s=some (a,t)):
  evFn lay0.tab (m+1) 146 [.box 0 0,.fn 1000156 [.box 0 0],.p (.slice 1 [.str [38,38]])] s.A.hp=some (.p (.int .i64 a),t.A.hp):=by
 apply GF m s.A;unfold pb;obtain⟨x,s1,h1,h⟩:=ae h;simp only[aa (hx _ _ _ h1),aJ,aS,b6];exact rg hx hm _ q s1 t x a h m hq
theorem oI {m:Nat}{ex:PM Int}(hx:eo m 160 ex)(hm:100≤m)(k0:Int×bm→R):∀(q':Nat) (s t:PS) (x a:Int),eF ex [[43],[45]] q' x s=some (a,t)→∀Q,q'≤Q→
  L_yleftTerm_1 (bv lay0.tab m) m k0 Q ([.str [43],.str [45]],x,s.A)=k0 (a,t.A)
 |0,s,t,x,a,h,Q,hQ=>by cases h
 |q'+1,s,t,x,a,h,Q,hQ=>by
  obtain⟨Q,rfl⟩:∃j,Q=j+1:=⟨Q - 1,by omega⟩
  rw[wH];unfold eF at h;obtain⟨hz,h⟩:=dR h;have hI:=fQ (m:=m) s [[43],[45]] (by decide) hz (by simp only[List.length_cons,List.length_nil];omega);simp only[List.map_cons,List.map_nil]at hI;simp only[gR,aa hI,aJ,aS,b6];rcases kG [[43],[45]] s.is with⟨e1,e2⟩|⟨j,o,e1,e2,e3,e4,e5⟩
  ·rcases h with⟨-,h⟩|⟨o',h1,-⟩
   ·obtain⟨rfl,rfl⟩:=aF h;simp only[e1,vm,aR]
   ·rw[e2]at h1;cases h1
  ·rcases h with⟨h1,-⟩|⟨o',h1,h⟩
   ·rw[e2]at h1;cases h1
   ·rw[e2]at h1;cases h1;obtain⟨_,s1,h1,h⟩:=ae h;obtain⟨-,rfl⟩:=bJ h1;obtain⟨y,s2,h2,h⟩:=ae h;obtain⟨z,s3,h3,h⟩:=ae h;have hat:fq [.str [43],.str [45]] (j:Int)=some (Da.str o):=by
     have:fq (List.map Da.str [[43],[45]]) (j:Int)=some (Da.str o):=by rw[cR,lO,e3];rfl
     exact this
    have ha:=k9 (m:=m) h3 (by omega);have ha':evFn lay0.tab m 123 [.box 0 0,.p (.agg [(.int .i64 5),(.str o),(.int .i64 0),(.int .i64 0),(.str []),(.slice 1 []),(.slice 1 []),(.slice 1 [Da.int .i64 x,Da.int .i64 y])])] s2.A.hp=some (.p (.int .i64 z),s3.A.hp):=ha;simp only[e1,Df (show ¬(j:Int)<0 by omega),aQ,aa (hx _ _ _ h2),aJ,aS,b6,hat,dL,ig,aa ha'];exact oI hx hm k0 q' s3 t z a h Q (by omega)
theorem Dn {m q:Nat}{ex:PM Int}(hx:eo m 160 ex)(hm:100≤m)(hq:q≤m){s t:PS}{a:Int}(h:gu ex [[43],[45]] q s=some (a,t)):
  evFn lay0.tab (m+1) 146 [.box 0 0,.fn 1000160 [.box 0 0],.p (.slice 1 [.str [43],.str [45]])] s.A.hp=some (.p (.int .i64 a),t.A.hp):=by
 apply DF m s.A;unfold mF;obtain⟨x,s1,h1,h⟩:=ae h;simp only[aa (hx _ _ _ h1),aJ,aS,b6];exact oI hx hm _ q s1 t x a h m hq
theorem mi {m:Nat}{ex:PM Int}(hx:eo m 161 ex)(hm:100≤m)(k0:Int×bm→R):∀(q':Nat) (s t:PS) (x a:Int),eF ex [[42],[47],[37]] q' x s=some (a,t)→∀Q,q'≤Q→
  L_yleftFactor_1 (bv lay0.tab m) m k0 Q ([.str [42],.str [47],.str [37]],x,s.A)=k0 (a,t.A)
 |0,s,t,x,a,h,Q,hQ=>by cases h
 |q'+1,s,t,x,a,h,Q,hQ=>by
  obtain⟨Q,rfl⟩:∃j,Q=j+1:=⟨Q - 1,by omega⟩
  rw[sB];unfold eF at h;obtain⟨hz,h⟩:=dR h;have hI:=fQ (m:=m) s [[42],[47],[37]] (by decide) hz (by simp only[List.length_cons,List.length_nil];omega);simp only[List.map_cons,List.map_nil]at hI;simp only[fp,aa hI,aJ,aS,b6];rcases kG [[42],[47],[37]] s.is with⟨e1,e2⟩|⟨j,o,e1,e2,e3,e4,e5⟩
  ·rcases h with⟨-,h⟩|⟨o',h1,-⟩
   ·obtain⟨rfl,rfl⟩:=aF h;simp only[e1,vm,aR]
   ·rw[e2]at h1;cases h1
  ·rcases h with⟨h1,-⟩|⟨o',h1,h⟩
   ·rw[e2]at h1;cases h1
   ·rw[e2]at h1;cases h1;obtain⟨_,s1,h1,h⟩:=ae h;obtain⟨-,rfl⟩:=bJ h1;obtain⟨y,s2,h2,h⟩:=ae h;obtain⟨z,s3,h3,h⟩:=ae h;have hat:fq [.str [42],.str [47],.str [37]] (j:Int)=some (Da.str o):=by
     have:fq (List.map Da.str [[42],[47],[37]]) (j:Int)=some (Da.str o):=by rw[cR,lO,e3];rfl
     exact this
    have ha:=k9 (m:=m) h3 (by omega);have ha':evFn lay0.tab m 123 [.box 0 0,.p (.agg [(.int .i64 5),(.str o),(.int .i64 0),(.int .i64 0),(.str []),(.slice 1 []),(.slice 1 []),(.slice 1 [Da.int .i64 x,Da.int .i64 y])])] s2.A.hp=some (.p (.int .i64 z),s3.A.hp):=ha;simp only[e1,Df (show ¬(j:Int)<0 by omega),aQ,aa (hx _ _ _ h2),aJ,aS,b6,hat,dL,ig,aa ha'];exact mi hx hm k0 q' s3 t z a h Q (by omega)
theorem yZ {m q:Nat}{ex:PM Int}(hx:eo m 161 ex)(hm:100≤m)(hq:q≤m){s t:PS}{a:Int}(h:gu ex [[42],[47],[37]] q s=some (a,t)):
  evFn lay0.tab (m+1) 146 [.box 0 0,.fn 1000161 [.box 0 0],.p (.slice 1 [.str [42],.str [47],.str [37]])] s.A.hp=some (.p (.int .i64 a),t.A.hp):=by
 apply zf m s.A;unfold j1;obtain⟨x,s1,h1,h⟩:=ae h;simp only[aa (hx _ _ _ h1),aJ,aS,b6];exact mi hx hm _ q s1 t x a h m hq
theorem Rp {m q:Nat}{ex:PM Int}(hx:eo m 147 ex)(hm:100≤m)(hq:q≤m):eo (m+2) 135 (gu ex [[124,124]] q):=by
 intro s t a h;apply RG (m+1) s.A;unfold Bf;simp only[aa (Dm hx hm hq h),aJ,aS,b6]
theorem Ro {m q:Nat}{ex:PM Int}(hx:eo m 156 ex)(hm:100≤m)(hq:q≤m):eo (m+2) 147 (gu ex [[38,38]] q):=by
 intro s t a h;apply RF (m+1) s.A;unfold Be;simp only[aa (F5 hx hm hq h),aJ,aS,b6]
theorem UV {m q:Nat}{ex:PM Int}(hx:eo m 160 ex)(hm:100≤m)(hq:q≤m):eo (m+2) 159 (gu ex [[43],[45]] q):=by
 intro s t a h;apply Vd (m+1) s.A;unfold Gk;simp only[aa (Dn hx hm hq h),aJ,aS,b6]
theorem Rq {m q:Nat}{ex:PM Int}(hx:eo m 161 ex)(hm:100≤m)(hq:q≤m):eo (m+2) 160 (gu ex [[42],[47],[37]] q):=by
 intro s t a h;apply RJ (m+1) s.A;unfold Bi;simp only[aa (yZ hx hm hq h),aJ,aS,b6]
theorem UU {m:Nat}{sum:PM Int}(hx:eo m 159 sum)(hm:100≤m):eo (m+1) 156 (Fp sum):=by
 intro s t a h;apply U7 m s.A;unfold Gg;obtain⟨x,s1,h1,h⟩:=ae h;obtain⟨hz,h⟩:=dR h;have hI:=fQ (m:=m) s1 wZ (by decide) hz (by simp only[wZ,List.length_cons,List.length_nil];omega);simp only[wZ,List.map_cons,List.map_nil]at hI;simp only[aa (hx _ _ _ h1),aJ,aS,b6,aa hI];rcases kG wZ s1.is with⟨e1,e2⟩|⟨j,o,e1,e2,e3,e4,e5⟩
 ·rcases h with⟨-,h⟩|⟨o',h1,-⟩
  ·obtain⟨rfl,rfl⟩:=aF h;unfold wZ at e1;simp only[e1,show bh 0 (-1)=false from rfl,aQ]
  ·rw[e2]at h1;cases h1
 ·rcases h with⟨h1,-⟩|⟨o',h1,h⟩
  ·rw[e2]at h1;cases h1
  ·rw[e2]at h1;cases h1;obtain⟨_,s2,h1,h⟩:=ae h;obtain⟨-,rfl⟩:=bJ h1;obtain⟨y,s3,h2,h3⟩:=ae h;have hat:fq (List.map Da.str wZ) (j:Int)=some (Da.str o):=by rw[cR,lO,e3];rfl
   simp only[wZ,List.map_cons,List.map_nil]at hat;have ha:=k9 (m:=m) h3 (by omega);have ha':evFn lay0.tab m 123 [.box 0 0,.p (.agg [(.int .i64 5),(.str o),(.int .i64 0),(.int .i64 0),(.str []),(.slice 1 []),(.slice 1 []),(.slice 1 [Da.int .i64 x,Da.int .i64 y])])] s3.A.hp=some (.p (.int .i64 a),t.A.hp):=ha;unfold wZ at e1;simp only[e1,oz (show(0:Int)≤(j:Int) by omega),aR,aa (hx _ _ _ h2),aJ,aS,b6,hat,dL,ig,aa ha']
theorem qO {s t:PS}{u:Unit}(h:pDec s=some (u,t)):{s with ne:=aj .i64 (s.ne - 1)}=t:=by
 unfold pDec at h;injection h with h;injection h with _ h
theorem rt {s t:PS}{u:Unit}{x:List Nat}(h:kL x s=some (u,t)):s.sz=true∧s.open x=t:=by
 obtain⟨h1,h2⟩:=bb h;injection h2 with _ h2;exact⟨h1,h2⟩
theorem sJ {s t:PS}{u:Unit}{x:List Nat}(h:gM x s=some (u,t)):s.sz=true∧s.close x=t:=by
 obtain⟨h1,h2⟩:=bb h;injection h2 with _ h2;exact⟨h1,h2⟩
theorem IW {s t:PS}{u:Unit}{x:List Nat}(h:gi x s=some (u,t)):s.sz=true∧s.exp x=t:=by
 obtain⟨h1,h2⟩:=bb h;injection h2 with _ h2;exact⟨h1,h2⟩
theorem Er {s t:PS}{u:Unit}{e:Int}(h:rB e s=some (u,t)):s.sz=true∧s.fail e=t:=by
 obtain⟨h1,h2⟩:=bb h;injection h2 with _ h2;exact⟨h1,h2⟩
theorem JL {m:Nat}{fac:PM Int}(hf:eo m 161 fac)(hm:100≤m){o:List Nat}{s t:PS}{a:Int}(h:UC o fac s=some (a,t)):
  (bv lay0.tab m 121 [(.box 0 0),(.p (.str o))] s.A.hp fun d12 o13=>aZ d12 fun r14=>aB r14<|az o13 fun u15=>bv lay0.tab m 42 [(.box 0 0)] u15.hp fun d16 o17=>dP d16 fun x18=>aI x18 fun b19=>az o17 fun u20=>
   iL b19
    (bv lay0.tab m 161 [(.box 0 0)] u20.hp fun d21 o22=>dP d21 fun x23=>au .i64 x23 fun i24=>az o22 fun u25=>
    bv lay0.tab m 123 [(.box 0 0),(.p (.agg [(.int .i64 4),(.str o),(.int .i64 0),(.int .i64 0),(.str []),(.slice 1 []),(.slice 1 []),(.slice 1 [Da.int .i64 i24])]))] ({u25 with ne:=(aj .i64 (u25.ne - 1))}:bm).hp fun d26 o27=>dP d26 fun x28=>au .i64 x28 fun i29=>az o27 fun u30=>some ((.p (.int .i64 i29)),u30.hp))
    (bv lay0.tab m 123 [(.box 0 0),(.p (.agg [(.int .i64 4),(.str o),(.int .i64 0),(.int .i64 0),(.str []),(.slice 1 []),(.slice 1 []),(.slice 1 [Da.int .i64 0])]))] ({u20 with ne:=(aj .i64 (u20.ne - 1))}:bm).hp fun d31 o32=>dP d31 fun x33=>au .i64 x33 fun i34=>az o32 fun u35=>some ((.p (.int .i64 i34)),u35.hp)))=some ((.p (.int .i64 a)),t.A.hp):=by
 obtain⟨_,s1,h1,h⟩:=ae h;obtain⟨hz,rfl⟩:=rt h1;obtain⟨x,s2,h2,h⟩:=ae h;obtain⟨_,s3,h3,h⟩:=ae h;obtain rfl:=qO h3;have ha:=k9 (m:=m) h (by omega);have ha':evFn lay0.tab m 123 [.box 0 0,.p (.agg [(.int .i64 4),(.str o),(.int .i64 0),(.int .i64 0),(.str []),(.slice 1 []),(.slice 1 []),(.slice 1 [Da.int .i64 x])])] ({s2.A with ne:=aj .i64 (s2.A.ne - 1)}:bm).hp=some (.p (.int .i64 a),t.A.hp):=ha;simp only[aa (uY (m:=m) s o hz (by omega)),bc,aM,b6,aa (fS (m:=m) (s.open o) (by omega)),aJ,aq];rcases bx h2 with⟨hk,h2⟩|⟨hk,h2⟩
 ·simp only[hk,aR,aa (hf _ _ _ h2),aJ,aS,b6,aa ha']
 ·obtain⟨rfl,rfl⟩:=aF h2;simp only[hk,aQ,aa ha',aJ,aS,b6]
theorem JR {m:Nat}{fac pr:PM Int}(hf:eo m 161 fac)(hp:eo m 162 pr)(hm:100≤m):eo (m+1) 161 (zw fac pr):=by
 intro s t a h;apply J9 m s.A;unfold sc;obtain⟨q,rfl⟩:∃q,m=q+3:=⟨m - 3,by omega⟩
 obtain⟨hz,h⟩:=aH h;rw[lC];simp only[fI,show bo 0 2=true from rfl,show bh 0 0=true from rfl,show bo 0 ↑(2:Nat)=true from rfl,aR,show Int.toNat 0=0 from rfl,List.getElem?_cons_zero,dL,ig,aa (gw (m:=q+3) s _ hz (by omega)),aJ,aq,b6];rcases h with⟨hc,h⟩|⟨hc,h⟩
 ·rw[hc,aR];exact JL hf hm h
 ·obtain⟨-,h⟩:=aH h;rw[hc,aQ,lC];simp only[fI,show aj .i64 (0+1)=1 from rfl,show bo 1 2=true from rfl,show bh 0 1=true from rfl,show bo 1 ↑(2:Nat)=true from rfl,aR,show Int.toNat 1=1 from rfl,List.getElem?_cons_zero,List.getElem?_cons_succ,dL,ig,aa (gw (m:=q+3) s _ hz (by omega)),aJ,aq,b6];rcases h with⟨hc2,h⟩|⟨hc2,h⟩
  ·rw[hc2,aR];exact JL hf hm h
  ·rw[hc2,aQ,lC];simp only[fI,show aj .i64 (1+1)=2 from rfl,show bo 2 2=false from rfl,aQ,aa (hp _ _ _ h),aJ,aS,b6]
end
end Go.Ab
end
