import Derived.Test.YtbgddkffhndjcaaGreatDoorAl
import Derived.Test.YtbgddkffhndjcaaGreatDoorDcA
import Derived.Test.YtbgddkffhndjcaaGreatDoorOg0
import Derived.Test.YtbgddkffhndjcaaGreatDoorOg1
set_option linter.all false
namespace Go.Ab
open Go
set_option maxRecDepth 100000
noncomputable section
structure Va where
 (k n:Int)
 s:LN
 I:LI
 L:List LN
structure No where
 op:Int
 name:LN
 v:Va
 kids:LI
structure Pa where
 name:LN
 kind:Int
structure Fe where
 name:LN
 kind:Int
 init:Va
structure Me where
 name:LN
 params:List Pa
 result:Int
 nodes:List No
structure Ac where
 name:LN
 fields:List Fe
 methods:List Me
structure Tk where
 k:Int
 s:LN
 (n a:Int)
structure PS where
 tk:List Tk
 ps:Nat
 (en aT er ne tt:Int)
 nd:List No
def iE (i:Int):Da:= .int .i64 i
def bX:Nat:=1000000000000
def wS {i:Nat}(h:i<bX):ae .i64 ((i:Int)+1)=((i+1:Nat):Int):=by
 unfold bX at h;rw[cz (by omega) (by omega)];omega
variable {a:Int}
def fd {b:Int}(h:a<b):aO a b=true:=by rw[cZ];simpa using h
def tz {b:Int}(h:¬a<b):aO a b=false:=by rw[cZ];simpa using h
def dJ (a:Int):aO a a=false:=tz (Int.lt_irrefl a)
def eqT {b:Int}(h:a=b):eqI a b=true:=by rw[bO];simpa using h
def Ps {b:Int}(h:¬a=b):eqI a b=false:=by rw[bO];simpa using h
def ji {b:Int}(h:a<=b):aS a b=true:=by rw[cn];simpa using h
def leF {b:Int}(h:¬a<=b):aS a b=false:=by rw[cn];simpa using h
def ad0 (a b:Bool)(t e:R):iL a t (iL b t e)=iL (a||b) t e:=by cases a<;>rfl
def dB (a x y:Bool):iL a (some ((pB x),[])) (some ((pB y),[]))=some ((pB (bif a then x else y)),[]):=by cases a<;>rfl
def uj (a:Bool):(bif a then true else false)=a:=by cases a<;>rfl
def adH (a:Bool):(bif a then false else true)=!a:=by cases a<;>rfl
def AX (a b:Bool):(bif a then b else false)=(a&&b):=by cases a<;>rfl
def abV (a b:Bool):(bif a then true else b)=(a||b):=by cases a<;>rfl
def ae9 (a b:Bool):(bif a then false else b)=(!a&&b):=by cases a<;>rfl
def BB (c:Int):Bool:=(aS 97 c&&aS c 122)||((aS 65 c&&aS c 90)||eqI c 95)
def dX (c:Int):Bool:=aS 48 c&&aS c 57
def zb (c:Int):Bool:=BB c||dX c
def w9 (c:Int):Bool:=aS 32 c&&(aS c 126&&(!eqI c 34&&!eqI c 92))
def Lz (s:LN):Bool:=[[97,99,116,111,114],[115,116,97,116,101],[109,101,116,104,111,100],[108,101,116],[105,102],[101,108,115,101],[119,104,105,108,101],[114,101,116,117,114,110],[102,97,105,108],[99,97,108,108],[101,109,105,116],[114,101,109,105,110,100],[99,97,110,99,101,108],[115,101,108,102],[116,114,117,101],[102,97,108,115,101],[105,110,116],[98,111,111,108],[115,116,114,105,110,103],[105,110,116,115],[115,116,114,105,110,103,115]].any fun t=>bv s t
def dV (p:Int->Bool)(s:LN):Nat:=(s.takeWhile fun(c:Nat)=>p (c:Int)).length
def cD (s:LN):Nat:=bif BB ((s.headD 0:Nat):Int)then dV zb s else 0
def bw (s:LN):Bool:=!bv s []&&(aS s.length 32&&(eqI (cD s) s.length&&!Lz s))
def kA (s p:LN):Bool:=bv (s.take p.length) p
def twoS:List LN:=[[61,61],[33,61],[60,61],[62,61],[38,38],[124,124]]
def oneS:LN:=[123,125,40,41,91,93,44,59,58,46,61,60,62,43,45,42,47,37,33]
def pf (s:LN):Nat:=bif twoS.any (kA s)then 2 else match s with|[]=>0|c::_=>bif oneS.any (Nat.beq c)then 1 else 0
def W_ (s:LN):Bool:=!bv s []&&eqI (pf s) (s.length:Int)
def W1:Tk:=⟨0,[],0,0⟩
def bc (t:Tk):Bool:=bif eqI t.k 1 then bw t.s else bif eqI t.k 2 then Lz t.s else bif eqI t.k 3 then aS 0 t.n else bif eqI t.k 4 then aS (t.s.length:Int) 64 else bif eqI t.k 5 then W_ t.s else false
def PS.ok (s:PS):Bool:=eqI s.er 0
def PS.fail (s:PS)(e:Int):PS:=bif s.ok then {s with er:=e,aT:=match s.tk[s.ps]? with|some t=>t.a|none=>s.en}else s
def PS.peek (s:PS)(i:Nat):Tk:=bif s.ok then(match s.tk[s.ps+i]? with|some t=>bif bc t then t else W1|none=>W1)else W1
def PS.is (s:PS)(x:LN):Bool:=(eqI (s.peek 0).k 2||eqI (s.peek 0).k 5)&&bv (s.peek 0).s x
def PS.up (s:PS):PS:={s with ps:=s.ps+1}
def PS.exp (s:PS)(x:LN):PS:=bif s.is x then s.up else s.fail 13
def PS.take (s:PS)(k:Int):Tk×PS:=bif eqI (s.peek 0).k k then(s.peek 0,s.up)else(W1,s.fail 13)
def PS.opn1 (s:PS)(x:LN):PS:=(bif s.is x&&eqI s.ne 24 then s.fail 5 else s).exp x
def PS.open (s:PS)(x:LN):PS:={s.opn1 x with ne:=ae .i64 ((s.opn1 x).ne+1)}
def PS.close (s:PS)(x:LN):PS:={s.exp x with ne:=ae .i64 ((s.exp x).ne - 1)}
abbrev PM (α:Type):=PS->Option (α×PS)
namespace PM
def ret {α:Type}(a:α):PM α:=fun s=>some (a,s)
def bnd {α β:Type}(p:PM α)(f:α->PM β):PM β:=fun s=>match p s with|none=>none|some r=>f r.1 r.2
end PM
def PS.sz (s:PS):Bool:=decide (s.ps<=s.tk.length)&&(decide (s.tk.length<1000000)&&s.tk.all fun t=>t.s.all fun c=>decide (c<256))
def lf {α:Type}(g:PS->α×PS):PM α:=fun s=>bif s.sz then some (g s)else none
def cnd {α:Type}(c:PS->Bool)(p q:PM α):PM α:=fun s=>bif s.sz then(bif c s then p s else q s)else none
def cok {α:Type}(p q:PM α):PM α:=fun s=>bif s.ok then p s else q s
def fnO {α:Type}(l:List LN)(p:PM α)(f:LN->PM α):PM α:=fun s=>bif s.sz then(match l.find? s.is with|none=>p s|some o=>f o s)else none
def pUp:PM Unit:=lf fun s=>((),s.up)
def B5 (e:Int):PM Unit:=lf fun s=>((),s.fail e)
def gE (x:LN):PM Unit:=lf fun s=>((),s.exp x)
def nL (x:LN):PM Unit:=lf fun s=>((),s.open x)
def jI (x:LN):PM Unit:=lf fun s=>((),s.close x)
def jk (k:Int):PM Tk:=lf fun s=>s.take k
def pName:PM (LN):=(jk 1).bnd fun t=> .ret t.s
def pPeek:PM Tk:=lf fun s=>(s.peek 0,s)
def pDec:PM Unit:=fun s=>some ((),{s with ne:=ae .i64 (s.ne - 1)})
def PS.add (s:PS)(x:No):Int×PS:=bif s.ok then((s.nd.length:Int),{s with nd:=s.nd++[x]})else(0,s)
def eb (x:No):PM Int:=fun s=>bif decide (s.nd.length<1000000)&&decide (x.kids.length<1000000)then some (s.add x)else none
def kindL:List LN:=[[105,110,116],[98,111,111,108],[115,116,114,105,110,103],[105,110,116,115],[115,116,114,105,110,103,115]]
def dn:List LN->Int->PS->Int×PS
 |[],_,s=>(0,s.fail 13)
 |x::r,i,s=>bif s.is x then(i,s.up)else dn r (i+1) s
def pKind:PM Int:=lf fun s=>dn kindL 1 s
def pInt:PM Int:=cnd (fun s=>s.is [45]) (pUp.bnd fun _=>(jk 3).bnd fun t=> .ret (ae .i64 (0 - t.n))) ((jk 3).bnd fun t=> .ret t.n)
def sN {α:Type}(begins:PS->Bool)(elem:α->PM α)(most:Nat):Nat->Nat->α->PM α
 |0,_,_=>fun _=>none
 |q+1,n,a=>cok
   ((lf fun s=>((),bif !begins s then s.fail 13 else bif Nat.beq n most then s.fail 5 else s)).bnd fun _=>
    (elem a).bnd fun a'=>cnd (fun s=>s.is [44]) (pUp.bnd fun _=>sN begins elem most q (n+1) a') (.ret a'))
   (.ret a)
def EC {α:Type}(begins:PS->Bool)(elem:α->PM α)(most q:Nat)(a:α):PM α:=cnd (fun s=>s.is [41]) (.ret a) (sN begins elem most q 0 a)
def beginL:List LN:=[[116,114,117,101],[102,97,108,115,101],[115,101,108,102],[105,110,116,115],[115,116,114,105,110,103,115],[40],[45],[33]]
def PS.begins (s:PS):Bool:=(eqI (s.peek 0).k 1||(eqI (s.peek 0).k 3||eqI (s.peek 0).k 4))||((eqI (s.peek 0).k 2||eqI (s.peek 0).k 5)&&beginL.any (bv (s.peek 0).s))
def vz:Va:=⟨0,0,[],[],[]⟩
def vI (n:Int):Va:=⟨1,n,[],[],[]⟩
def O8 (s:PS):Bool:=s.is [45]||eqI (s.peek 0).k 3
def Kn (s:PS):Bool:=eqI (s.peek 0).k 4
def Km (s:PS):Bool:=eqI (s.peek 0).k 1
def snoc {α:Type}(p:PM α)(l:List α):PM (List α):=p.bnd fun x=>fun s=>bif decide (l.length<1000000)then some (l++[x],s)else none
def jc (c:PM Va):PM Va:=cnd (fun s=>eqI (s.peek 0).k 4) (lf fun s=>(⟨3,0,(s.peek 0).s,[],[]⟩,s.up))
 (cnd (fun s=>s.is [116,114,117,101]) (lf fun s=>(⟨2,1,[],[],[]⟩,s.up)) (cnd (fun s=>s.is [102,97,108,115,101]) (lf fun s=>(⟨2,0,[],[],[]⟩,s.up)) c))
def oX (q:Nat):PM Va:=jc
 (cnd (fun s=>s.is [105,110,116,115]) (pUp.bnd fun _=>(gE [40]).bnd fun _=>(EC O8 (snoc pInt) 16 q []).bnd fun l=>(gE [41]).bnd fun _=> .ret ⟨4,0,[],l,[]⟩)
 (cnd (fun s=>s.is [115,116,114,105,110,103,115]) (pUp.bnd fun _=>(gE [40]).bnd fun _=>(EC Kn (snoc ((jk 4).bnd fun t=> .ret t.s)) 16 q []).bnd fun l=>(gE [41]).bnd fun _=> .ret ⟨5,0,[],[],l⟩)
 (pInt.bnd fun n=> .ret (vI n))))
def gY (operand:PM Int)(ops:List LN):Nat->Int->PM Int
 |0,_=>fun _=>none
 |q+1,x=>fnO ops (.ret x) fun o=>pUp.bnd fun _=>operand.bnd fun y=>(eb ⟨5,o,vz,[x,y]⟩).bnd fun z=>gY operand ops q z
def f7 (operand:PM Int)(ops:List LN)(q:Nat):PM Int:=operand.bnd fun x=>gY operand ops q x
def yO:List LN:=[[61,61],[33,61],[60],[60,61],[62],[62,61]]
def DB (sum:PM Int):PM Int:=sum.bnd fun x=>fnO yO (.ret x) fun o=>pUp.bnd fun _=>sum.bnd fun y=>eb ⟨5,o,vz,[x,y]⟩
def sa (ex:PM Int)(q:Nat):PM (LI):=(nL [40]).bnd fun _=>(EC PS.begins (snoc ex) 16 q []).bnd fun l=>(jI [41]).bnd fun _=> .ret l
def pUn (o:LN)(fac:PM Int):PM Int:=(nL o).bnd fun _=>(cok fac (.ret 0)).bnd fun x=>pDec.bnd fun _=>eb ⟨4,o,vz,[x]⟩
def y3 (fac pr:PM Int):PM Int:=cnd (fun s=>s.is [45]) (pUn [45] fac) (cnd (fun s=>s.is [33]) (pUn [33] fac) pr)
def PS.appl (s:PS):Bool:=eqI (s.peek 1).k 5&&bv (s.peek 1).s [40]
def fD (ex:PM Int)(q:Nat):PM Int:=
 cnd (fun s=>eqI (s.peek 0).k 1&&!s.appl) (pPeek.bnd fun t=>pUp.bnd fun _=>eb ⟨2,t.s,vz,[]⟩)
 (cnd (fun s=>eqI (s.peek 0).k 1||(s.is [105,110,116,115]||s.is [115,116,114,105,110,103,115])) (pPeek.bnd fun t=>pUp.bnd fun _=>(sa ex q).bnd fun l=>eb ⟨6,t.s,vz,l⟩)
 (cnd (fun s=>eqI (s.peek 0).k 3) (pPeek.bnd fun t=>pUp.bnd fun _=>eb ⟨1,[],vI t.n,[]⟩)
 (cnd (fun s=>eqI (s.peek 0).k 4||(s.is [116,114,117,101]||s.is [102,97,108,115,101])) ((jc fun _=>none).bnd fun v=>eb ⟨1,[],v,[]⟩)
 (cnd (fun s=>s.is [115,101,108,102]) (pUp.bnd fun _=>eb ⟨3,[],vz,[]⟩)
 (cnd (fun s=>s.is [40]) ((nL [40]).bnd fun _=>(cok ex (.ret 0)).bnd fun x=>(jI [41]).bnd fun _=> .ret x)
 ((B5 13).bnd fun _=> .ret 0))))))
def fu (q:Nat):Nat->Nat->PM Int
 |0,_=>fun _=>none
 |f+1,0=>f7 (fu q f 1) [[124,124]] q
 |f+1,1=>f7 (fu q f 2) [[38,38]] q
 |f+1,2=>DB (fu q f 3)
 |f+1,3=>f7 (fu q f 4) [[43],[45]] q
 |f+1,4=>f7 (fu q f 5) [[42],[47],[37]] q
 |f+1,5=>y3 (fu q f 5) (fu q f 6)
 |f+1,_=>fD (fu q f 0) q
def pD (ex:PM Int)(q:Nat):PM Int:=(gE [99,97,108,108]).bnd fun _=>pName.bnd fun n=>(nL [40]).bnd fun _=>ex.bnd fun key=>(jI [41]).bnd fun _=>(gE [46]).bnd fun _=>pName.bnd fun m=>(sa ex q).bnd fun l=>eb ⟨7,n,⟨0,0,m,[],[]⟩,key::l⟩
def kU (ex:PM Int)(q:Nat):PM Int:=(gE [61]).bnd fun _=>cnd (fun s=>s.is [99,97,108,108]) (pD ex q) ex
def jj (ex:PM Int):Nat->LI->PM (LI)
 |0,l=> .ret l
 |n+1,l=>bif l.isEmpty then(snoc ex l).bnd (jj ex n)else(gE [44]).bnd fun _=>(snoc ex l).bnd (jj ex n)
def tf (ex:PM Int)(n:Nat):PM (LI):=(nL [40]).bnd fun _=>(jj ex n []).bnd fun l=>(jI [41]).bnd fun _=> .ret l
def gL (x:No):PM Int:=(gE [59]).bnd fun _=>eb x
def pE (op:Int)(ex bl:PM Int):PM Int:=(nL [40]).bnd fun _=>ex.bnd fun c=>(jI [41]).bnd fun _=>bl.bnd fun b=>
 bif eqI op 11 then cnd (fun s=>s.is [101,108,115,101]) (pUp.bnd fun _=>bl.bnd fun e=>eb ⟨op,[],vz,[c,b,e]⟩) (eb ⟨op,[],vz,[c,b]⟩)else eb ⟨op,[],vz,[c,b]⟩
def f8 (ex bl:PM Int)(q:Nat):PM Int:=
 cnd (fun s=>s.is [108,101,116]) (pUp.bnd fun _=>pName.bnd fun n=>(gE [58]).bnd fun _=>pKind.bnd fun k=>(kU ex q).bnd fun x=>gL ⟨8,n,⟨k,0,[],[],[]⟩,[x]⟩)
 (cnd (fun s=>eqI (s.peek 0).k 1) (pName.bnd fun n=>(kU ex q).bnd fun x=>gL ⟨9,n,vz,[x]⟩)
 (cnd (fun s=>s.is [99,97,108,108]) ((pD ex q).bnd fun x=>gL ⟨10,[],vz,[x]⟩)
 (cnd (fun s=>s.is [105,102]) (pUp.bnd fun _=>pE 11 ex bl)
 (cnd (fun s=>s.is [119,104,105,108,101]) (pUp.bnd fun _=>pE 12 ex bl)
 (cnd (fun s=>s.is [114,101,116,117,114,110]) (pUp.bnd fun _=>cnd (fun s=>s.is [59]) (gL ⟨13,[],vz,[]⟩) (ex.bnd fun x=>gL ⟨13,[],vz,[x]⟩))
 (cnd (fun s=>s.is [102,97,105,108]) (pUp.bnd fun _=>gL ⟨14,[],vz,[]⟩)
 (cnd (fun s=>s.is [101,109,105,116]) (pUp.bnd fun _=>(tf ex 2).bnd fun l=>gL ⟨15,[],vz,l⟩)
 (cnd (fun s=>s.is [114,101,109,105,110,100]) (pUp.bnd fun _=>(tf ex 3).bnd fun l=>gL ⟨16,[],vz,l⟩)
 (cnd (fun s=>s.is [99,97,110,99,101,108]) (pUp.bnd fun _=>(tf ex 1).bnd fun l=>gL ⟨17,[],vz,l⟩)
 ((B5 13).bnd fun _=> .ret 0))))))))))
def lK (st:PM Int):Nat->LI->PM (LI)
 |0,_=>fun _=>none
 |q+1,l=>cok (cnd (fun s=>s.is [125]) (.ret l) ((snoc st l).bnd (lK st q))) (.ret l)
def hK (op:Int)(hs:LI):LI->Nat->Int->Int
 |[],_,m=>m
 |k::r,j,m=>hK op hs r (j+1) (bif(eqI op 11||eqI op 12)&&eqI (j:Int) 0 then(bif aO m (ae .i64 (hs.getD k.toNat 0+1))then ae .i64 (hs.getD k.toNat 0+1)else m)else bif aO m (hs.getD k.toNat 0)then hs.getD k.toNat 0 else m)
def GU (op m:Int):Int:=bif eqI op 4 then ae .i64 (m+2)else bif eqI op 5||(eqI op 6||(eqI op 7||(eqI op 15||(eqI op 16||(eqI op 17||eqI op 18)))))then ae .i64 (m+1)else m
def hN:List No->Nat->LI->LI
 |[],_,hs=>hs
 |x::r,i,hs=>hN r (i+1) (hs.set i (GU x.op (hK x.op hs x.kids 0 0)))
def cN (ns:List No):Int:=(hN ns 0 (List.replicate ns.length 0)).getD (ns.length - 1) 0
def wM (n:Nat)(x:No):Bool:=decide (x.kids.length<10000)&&x.kids.all fun k=>aS 0 k&&aO k n
def td:PM Unit:=fun s=>bif decide (s.nd.length<10000)&&decide (0<s.nd.length)&&s.nd.all (wM s.nd.length)then
 some ((),bif aO 1500 (ae .i64 (s.tt+(s.nd.length:Int)))then s.fail 5 else bif aO 24 (cN s.nd)then s.fail 5 else s)else none
def gD (lim:PM Unit)(st:PM Int)(q:Nat):PM Int:=(nL [123]).bnd fun _=>(lK st q []).bnd fun l=>
 cok ((eb ⟨18,[],vz,l⟩).bnd fun x=>lim.bnd fun _=>(jI [125]).bnd fun _=> .ret x) (.ret 0)
def Ek (q:Nat):Nat->PM Int
 |0=>fun _=>none
 |f+1=>gD (.ret ()) (f8 (fu q f 0) (Ek q f) q) q
def kT:PM Pa:=pName.bnd fun n=>(gE [58]).bnd fun _=>pKind.bnd fun k=> .ret ⟨n,k⟩
def sb (f q:Nat):PM (List No):=fun s=>match gD td (f8 (fu q f 0) (Ek q f) q) q {s with nd:=[],ne:=0}with
 |none=>none
 |some (_,u)=>some (u.nd,{u with tt:=ae .i64 (u.tt+(u.nd.length:Int))})
def sc (f q:Nat):PM Me:=(gE [109,101,116,104,111,100]).bnd fun _=>pName.bnd fun n=>(gE [40]).bnd fun _=>(EC Km (snoc kT) 4 q []).bnd fun ps=>(gE [41]).bnd fun _=>
 (cnd (fun s=>s.is [58]) (pUp.bnd fun _=>pKind) (.ret 0)).bnd fun k=>(sb f q).bnd fun ns=> .ret ⟨n,ps,k,ns⟩
def cY (k:Int)(s:PS):Bool:=
 bif eqI k 0 then false else bif eqI k 1 then s.is [45]||eqI (s.peek 0).k 3 else bif eqI k 2 then s.is [116,114,117,101]||s.is [102,97,108,115,101]else bif eqI k 3 then eqI (s.peek 0).k 4 else bif eqI k 4 then s.is [105,110,116,115]else s.is [115,116,114,105,110,103,115]
def kR (q:Nat):PM Fe:=(gE [115,116,97,116,101]).bnd fun _=>pName.bnd fun n=>(gE [58]).bnd fun _=>pKind.bnd fun k=>(gE [61]).bnd fun _=>
 (lf fun s=>((),bif !cY k s then s.fail 13 else s)).bnd fun _=>(oX q).bnd fun v=>(gE [59]).bnd fun _=> .ret ⟨n,k,v⟩
def hH {α:Type}(w:LN)(most:Nat)(p:PM α):Nat->List α->PM (List α)
 |0,_=>fun _=>none
 |q+1,l=>cnd (fun s=>s.is w) ((lf fun s=>((),bif Nat.beq l.length most then s.fail 5 else s)).bnd fun _=>(snoc p l).bnd (hH w most p q)) (.ret l)
def oW (f q:Nat):PM Ac:=(gE [97,99,116,111,114]).bnd fun _=>pName.bnd fun n=>(gE [123]).bnd fun _=>(hH [115,116,97,116,101] 8 (kR q) q []).bnd fun fs=>(hH [109,101,116,104,111,100] 16 (sc f q) q []).bnd fun ms=>(gE [125]).bnd fun _=> .ret ⟨n,fs,ms⟩
def gS (n f q:Nat):Nat->List Ac->PM (List Ac)
 |0,_=>fun _=>none
 |m+1,l=>cok (cnd (fun s=>decide (s.ps<n)) ((lf fun s=>((),bif s.is [97,99,116,111,114]&&Nat.beq l.length 8 then s.fail 5 else s)).bnd fun _=>(snoc (oW f q) l).bnd (gS n f q m)) (.ret l)) (.ret l)
def nf (tk:List Tk)(en:Int)(f q:Nat):Option (List Ac×Int×Int):=match gS tk.length f q q [] ⟨tk,0,en,0,0,0,0,[]⟩with
 |none=>none
 |some (l,s)=>some (bif !s.ok then([],s.aT,s.er)else(l,0,0))
def Va.r (v:Va):aB:=⟨v.k,v.n,v.s,v.I.map iE,v.L.map .str⟩
def Va.e (v:Va):Da:=v.r.e
def No.r (n:No):aK:=⟨n.op,n.name,n.v.k,n.v.n,n.v.s,n.v.I.map iE,n.v.L.map .str,n.kids.map iE⟩
def No.e (n:No):Da:=n.r.e
def Pa.r (p:Pa):eq:=⟨p.name,p.kind⟩
def Pa.e (p:Pa):Da:=p.r.e
def Fe.r (f:Fe):cb:=⟨f.name,f.kind,f.init.k,f.init.n,f.init.s,f.init.I.map iE,f.init.L.map .str⟩
def Fe.e (f:Fe):Da:=f.r.e
def Me.r (m:Me):bf:=⟨m.name,m.params.map Pa.e,m.result,m.nodes.map No.e⟩
def Me.e (m:Me):Da:=m.r.e
def Ac.r (a:Ac):ba:=⟨a.name,a.fields.map Fe.e,a.methods.map Me.e⟩
def Ac.e (a:Ac):Da:=a.r.e
def Tk.r (t:Tk):bx:=⟨t.k,t.s,t.n,t.a⟩
def Tk.e (t:Tk):Da:=t.r.e
def dVa (n:Va)(K:aB->R):dS n.e K=K n.r:=rfl
def Vb (n:No)(K:aK->R):bn n.e K=K n.r:=rfl
def dPa (n:Pa)(K:eq->R):cJ n.e K=K n.r:=rfl
def dFe (n:Fe)(K:cb->R):cI n.e K=K n.r:=rfl
def dMe (n:Me)(K:bf->R):dR n.e K=K n.r:=rfl
def dAc (n:Ac)(K:ba->R):bC n.e K=K n.r:=rfl
def W0 (t:Tk)(K:bx->R):aQ t.e K=K t.r:=rfl
def dI (i:Int)(K:Int->R):aP .i64 (iE i) K=K i:=rfl
def cV (s:LN)(K:LN->R):dm (Da.str s) K=K s:=rfl
def PS.A (s:PS):bE:=⟨s.tk.map Tk.e,s.ps,s.en,s.aT,s.er,s.ne,s.tt,s.nd.length,s.nd.map No.e⟩
def PS.B (s:PS):cg:=⟨s.tk.map Tk.e,s.ps,s.en,s.aT,s.er,s.ne,s.tt,s.nd.map No.e⟩
def cP (c:bE)(K:bE->R):aq c.hp K=K c:=rfl
def jh (c:cg)(K:cg->R):aR c.hp K=K c:=rfl
def ef {n b:Nat}(h:n<1000000001)(hb:b<=1000):cO n b=true:=by
 unfold cO;rw[lγ,Nat.ble_eq,Nat.ble_eq];constructor
 ·calc (2*n+192)*b<=(2*1000000001+192)*1000:=Nat.mul_le_mul (by omega) hb
   _<=281474976710656:=by decide
 ·omega
variable {m:Nat}
def aH {c:Nat}(h:c+1<=m):∃k,m=k+1/\c<=k:=⟨m - 1,by omega,by omega⟩
def zH {α:Type}(p:α->Bool):∀s:List α,(match s.findIdx? (fun c=>!p c)with|some j=>j|none=>s.length)=(s.takeWhile p).length
 |[]=>rfl
 |x::r=>by
  rw[qε,List.takeWhile_cons];have ih:=zH p r;cases p x
  ·rfl
  ·simp only[Bool.not_true,Bool.false_eq_true,if_false,if_true,List.length_cons];rw[<-ih];cases r.findIdx? fun c=>!p c<;>rfl
def tG (c:Int)(hm:1<=m):Ω m 69 [.p (.int .u8 c)] []=some (pB (dX c),[]):=by
 obtain⟨m,rfl,-⟩:=aH hm;apply Yv m c;simp only[Jv,dB,AX,Bool.and_true,dX]
def DM (c:Int)(hm:1<=m):Ω m 78 [.p (.int .u8 c)] []=some (pB (BB c),[]):=by
 obtain⟨m,rfl,-⟩:=aH hm;apply UN m c;unfold D7 qe BB;cases aS 97 c<;>cases aS c 122<;>cases aS 65 c<;>cases aS c 90<;>cases eqI c 95<;>rfl
def IX (c:Int)(hm:1<=m):Ω m 91 [.p (.int .u8 c)] []=some (pB (w9 c),[]):=by
 obtain⟨m,rfl,-⟩:=aH hm;apply Yw m c;simp only[Jw,dB,AX,Bool.and_true,w9]
def XD (c:Int)(hm:2<=m):Ω m 79 [.p (.int .u8 c)] []=some (pB (zb c),[]):=by
 replace hm:=aH hm;obtain⟨m,rfl,hm⟩:=hm;apply Yz m c;simp only[Jz,evC_known (DM c hm),evC_known (tG c hm),aE,aj,ah,dB,abV,Bool.or_false,zb]
def Hs (c:Int):Bool:=!eqI c 10
def XB (c:Int)(hm:1<=m):Ω m 68 [.p (.int .u8 c)] []=some (pB (Hs c),[]):=by
 replace hm:=aH hm;obtain⟨m,rfl,hm⟩:=hm;rfl
def V2 (k:Nat):Int.ofNat k=(k:Int):=rfl
def ţ (s:LN)(hm:s.length+3<=m)(hl:s.length<bX):Ω m 67 [pS s,.p (.fn 79 [])] []=some (pI (dV zb s),[]):=by
 replace hm:=aH hm;obtain⟨m,rfl,hm⟩:=hm;apply Ÿ m s;unfold Rp dV;refine(cd s (fun q i=>itL (nu _ m _) q (s,i)) (fun c:Nat=>!zb (c:Int)) (fun i=>some (pI i,[])) (some (pI s.length,[])) (fun q i hi=>?_) (fun q=>?_) (by omega)).trans ?_
 ·rw[aM];simp only[nu,fd (show((i:Int)<(s.length:Int)) by omega),ji (show(0:Int)<=(i:Int) by omega),cond_true,Int.toNat_natCast,lθ hi,bH,wS (show i<bX by omega),evC_known (XD (m:=m) _ (by omega)),ah];cases zb (s[i]:Int)<;>rfl
 ·rw[aM];simp only[nu,dJ,aG]
 ·rw[<-zH];grind
def š (s:LN)(hm:s.length+3<=m)(hl:s.length<bX):Ω m 67 [pS s,.p (.fn 69 [])] []=some (pI (dV dX s),[]):=by
 replace hm:=aH hm;obtain⟨m,rfl,hm⟩:=hm;apply Ŷ m s;unfold Rn dV;refine(cd s (fun q i=>itL (nr _ m _) q (s,i)) (fun c:Nat=>!dX (c:Int)) (fun i=>some (pI i,[])) (some (pI s.length,[])) (fun q i hi=>?_) (fun q=>?_) (by omega)).trans ?_
 ·rw[aM];simp only[nr,fd (show((i:Int)<(s.length:Int)) by omega),ji (show(0:Int)<=(i:Int) by omega),cond_true,Int.toNat_natCast,lθ hi,bH,wS (show i<bX by omega),evC_known (tG (m:=m) _ (by omega)),ah];cases dX (s[i]:Int)<;>rfl
 ·rw[aM];simp only[nr,dJ,aG]
 ·rw[<-zH];grind
def Ţ (s:LN)(hm:s.length+3<=m)(hl:s.length<bX):Ω m 67 [pS s,.p (.fn 68 [])] []=some (pI (dV Hs s),[]):=by
 replace hm:=aH hm;obtain⟨m,rfl,hm⟩:=hm;apply ŷ m s;unfold Ro dV;refine(cd s (fun q i=>itL (nt _ m _) q (s,i)) (fun c:Nat=>!Hs (c:Int)) (fun i=>some (pI i,[])) (some (pI s.length,[])) (fun q i hi=>?_) (fun q=>?_) (by omega)).trans ?_
 ·rw[aM];simp only[nt,fd (show((i:Int)<(s.length:Int)) by omega),ji (show(0:Int)<=(i:Int) by omega),cond_true,Int.toNat_natCast,lθ hi,bH,wS (show i<bX by omega),evC_known (XB (m:=m) _ (by omega)),ah];cases Hs (s[i]:Int)<;>rfl
 ·rw[aM];simp only[nt,dJ,aG]
 ·rw[<-zH];grind
def oh (s:LN)(hm:1<=m):Ω m 47 [pS s] []=some (pB (Lz s),[]):=by
 replace hm:=aH hm;obtain⟨m,rfl,hm⟩:=hm;apply F7 m s;simp only[t6,dB,abV,Lz,List.any_cons,List.any_nil,Bool.or_false]
def Q7 (s:LN)(hm:s.length+4<=m)(hl:s.length<bX):Ω m 46 [pS s] []=some (pI (cD s),[]):=by
 replace hm:=aH hm;obtain⟨m,rfl,hm⟩:=hm;apply Ż m s;unfold Rt cD;cases s with
 |nil=>rfl
 |cons c r=>
  simp only[show aS 0 0=true from rfl,cond_true,Int.toNat_zero,List.getElem?_cons_zero,bH,evC_known (DM (m:=m) _ (by omega)),evC_known (ţ (m:=m) _ hm hl),List.headD_cons];cases BB (c:Int)<;>rfl
def DL (s:LN)(hm:50<=m):Ω m 16 [pS s] []=some (pB (bw s),[]):=by
 replace hm:=aH hm;obtain⟨m,rfl,hm⟩:=hm;apply UK m s;by_cases h:s.length<=32
 ·simp only[wa,evC_known (Q7 (m:=m) s (by omega) (by unfold bX;omega)),evC_known (oh (m:=m) s (by omega)),aE,aj,aW,ah,dB,adH,AX,bw]
 ·have:aS (s.length:Int) 32=false:=leF (by omega);simp only[wa,bw,this,Bool.and_false];cases bv s []<;>rfl
def C6 (s p:LN)(hm:1<=m):Ω m 96 [pS s,pS p] []=some (pB (kA s p),[]):=by
 replace hm:=aH hm;obtain⟨m,rfl,hm⟩:=hm;apply Dn m s p;unfold rQ kA;rw[List.drop_zero,show Int.toNat (↑(List.length p)) - 0=p.length by omega];by_cases h:p.length<=s.length
 ·rw[ji (show(p.length:Int)<=s.length by omega),az,az,dB,uj]
 ·rw[leF (show ¬(p.length:Int)<=s.length by omega),aG,ec,mρ];grind
def tE (s p:LN)(hm:2<=m):Ω m 66 [pS s,pS p] []=some (pB (kA s p),[]):=by
 replace hm:=aH hm;obtain⟨m,rfl,hm⟩:=hm;apply F5 m s p;simp only[tX,evC_known (C6 s p hm),aE,aj,ah,dB,uj]
def afo (m:Nat)(s:LN)(c:Int):Ω (m+1) 95 [pS s,.p (.int .u8 c)] []=rt [.str s,.int .u8 c]:=by rfl
def tF (s:LN)(c:Nat)(hc:c<256)(hm:2<=m):Ω m 65 [pS s,.p (.int .u8 (c:Int))] []=some (pI (Lu s c),[]):=by
 replace hm:=aH hm;obtain⟨m,rfl,hm⟩:=hm;replace hm:=aH hm;obtain⟨m,rfl,hm⟩:=hm;apply F6 (m+1) s c;have h:Ω (m+1) 95 [pS s,.p (.int .u8 (c:Int))] []=some (pI (Lu s c),[]):=by
  rw[afo];simp only[rt,ji (show(0:Int)<=c by omega),ji (show(c:Int)<=255 by omega),Bool.and_self,cond_true]
 simp only[tZ,evC_known h,aE,aW,ah]
def SB (s:LN)(c:Nat):aS 0 (Lu s c)=s.any (fun b=>Nat.beq b c):=by
 unfold Lu;have e:(fun b:Nat=>eqI (Int.ofNat b) (c:Int))=fun b=>Nat.beq b c:=by
  rfl
 rw[e];cases h:s.findIdx? fun b=>Nat.beq b c with
 |none=>
  symm;rw[show aS 0 (-1)=false from rfl,mυ];simp_all
 |some i=>
  obtain⟨hi,hp,-⟩:=qζ.1 h;rw[show aS 0 (match (some i:Option Nat)with|some i=>(i:Int)|none=> -1)=true from ji (by simp)];grind
def DK (s:LN)(hb:∀c∈s,c<256)(hm:20<=m):Ω m 72 [pS s] []=some (pI (pf s),[]):=by
 replace hm:=aH hm;obtain⟨m,rfl,hm⟩:=hm;apply UJ m s;unfold D4;replace hm:∃k,m=k+7/\12<=k:=⟨m - 7,by omega,by omega⟩;obtain⟨m,rfl,hm⟩:=hm
 have hp:=fun p=>tE (m:=m+7) s p (by omega)
 simp only[aM,qm,show ae .i64 (0+1)=1 from rfl,show ae .i64 (1+1)=2 from rfl,show ae .i64 (2+1)=3 from rfl,show ae .i64 (3+1)=4 from rfl,show ae .i64 (4+1)=5 from rfl,show aO 1 6=true from rfl,show aO 2 6=true from rfl,show aO 3 6=true from rfl,show aO 4 6=true from rfl,show aO 5 6=true from rfl,show aS 0 0=true from rfl,show aS 0 1=true from rfl,show aS 0 2=true from rfl,show aS 0 3=true from rfl,show aS 0 4=true from rfl,show aS 0 5=true from rfl,az,show Int.toNat 0=0 from rfl,show Int.toNat 1=1 from rfl,show Int.toNat 2=2 from rfl,show Int.toNat 3=3 from rfl,show Int.toNat 4=4 from rfl,show Int.toNat 5=5 from rfl,
  List.getElem?_cons_zero,List.getElem?_cons_succ,bH,cV,evC_known (hp _),aE,aj,ah,ad0]
 unfold pf twoS;simp;cases h:(kA s [61,61]||(kA s [33,61]||(kA s [60,61]||(kA s [62,61]||(kA s [38,38]||kA s [124,124])))))
 ·cases s with
  |nil=>rfl
  |cons c r=>
   simp only[List.getElem?_cons_zero,bH,evC_known (tF (m:=m+7) _ c (hb c (by simp)) (by omega)),aE,aW,SB];rw[show(fun b=>Nat.beq b c)=(Nat.beq c)from by funext b;rw[Gg,Gg];grind];show iL (oneS.any (Nat.beq c)) _ _=_;cases oneS.any (Nat.beq c)<;>rfl
 ·rfl
def IS (s:LN)(hb:∀c∈s,c<256)(hm:21<=m):Ω m 115 [pS s] []=some (pB (W_ s),[]):=by
 replace hm:=aH hm;obtain⟨m,rfl,hm⟩:=hm;apply JU m s;simp only[xy,evC_known (DK s hb hm),aE,aW,ah,dB,AX,W_,Bool.and_true]
def DJ (t:Tk)(hb:∀c∈t.s,c<256)(hm:51<=m):Ω m 99 [.p t.e] []=some (pB (bc t),[]):=by
 replace hm:=aH hm;obtain⟨m,rfl,hm⟩:=hm;apply UI m t.r;unfold D3 mF;simp only[show t.r.Kind=t.k from rfl,show t.r.Text=t.s from rfl,show t.r.Num=t.n from rfl,evC_known (DL (m:=m) t.s hm),evC_known (oh (m:=m) t.s (by omega)),evC_known (IS (m:=m) t.s hb (by omega)),aE,aj,ah];unfold bc;cases eqI t.k 1<;>cases eqI t.k 2<;>cases eqI t.k 3<;>cases eqI t.k 4<;>cases eqI t.k 5<;>simp only[dB,uj,cond_false]
def f6 (c:Nat):Int:=bif dX c then(c:Int) - 48 else bif aS 97 c&&aS c 102 then(c:Int) - 87 else -1
def EY (c:Nat):f6 c= -1\/0<=f6 c/\f6 c<16:=by
 unfold f6 dX;simp only[cn];grind
def u8w {n:Int}(h0:0<=n)(h1:n<256):ae .u8 n=n:=by
 obtain⟨k,rfl⟩:=Int.eq_ofNat_of_zero_le h0;have:Nat.blt k 256=true:=by simp;omega
 simp only[ae,this,cond_true];rfl
def Ud (c:Nat)(hm:2<=m):Ω m 114 [.p (.int .u8 (c:Int))] []=some (pI (f6 c),[]):=by
 replace hm:=aH hm;obtain⟨m,rfl,hm⟩:=hm;apply UO m c;simp only[D8,evC_known (tG (m:=m) c hm),aE,aj,ah];unfold f6;cases h:dX c with
 |true=>
  simp only[dX,cn,lγ,lδ]at h;rw[az,cond_true,u8w (by omega) (by omega),cz (by omega) (by omega)]
 |false=>
  cases h1:aS 97 (c:Int)<;>cases h2:aS (c:Int) 102<;>simp only[az,aG,Bool.and_false,Bool.and_true,cond_false,cond_true];simp only[cn,lδ]at h1 h2;rw[u8w (by omega) (by omega),cz (n:=(c:Int) - 97) (by omega) (by omega),cz (by omega) (by omega)];grind
def Ϩ:LN->Nat×Nat
 |_::c::r=>bif Nat.beq c 34||Nat.beq c 92 then(c,2)else
  match r with
  |a::b::_=>bif Nat.beq c 120&&(aS 0 (f6 a)&&aS 0 (f6 b))then((16*f6 a+f6 b).toNat,4)else(0,0)
  |_=>(0,0)
 |_=>(0,0)
def eqN (a b:Nat):eqI (a:Int) (b:Int)=Nat.beq a b:=rfl
def afr:((List.range 16).all fun a=>(List.range 16).all fun b=>eqI (ae .u8 (ae .i64 ↑(BitVec.toNat (BitVec.ofInt (IntKind.bits .i64) (ae .i64 ((a:Int)*2 ^ min (Int.toNat 4) (IntKind.bits .i64))) ||| BitVec.ofInt (IntKind.bits .i64) (b:Int))))) (16*(a:Int)+b))=true:=by rfl
def Uc (s:LN)(hm:3<=m):Ω m 98 [pS s] []=some (.tup [.p (.int .u8 ((Ϩ s).1:Int)),pI ((Ϩ s).2:Int)],[]):=by
 replace hm:=aH hm;obtain⟨m,rfl,hm⟩:=hm;apply UM m s;have nb:=fun c=>Ud (m:=m) c hm
 unfold D6;rcases s with _|⟨x,_|⟨c,r⟩⟩
 ·rfl
 ·rfl
 ·have l2:aS 2 ((List.length (x::c::r):Nat):Int)=true:=ji (by grind);simp only[l2,az,show aS 0 1=true from rfl,cond_true,Int.toNat_one,List.getElem?_cons_succ,List.getElem?_cons_zero,bH,V2,show((34:Int))=((34:Nat):Int)from rfl,show((92:Int))=((92:Nat):Int)from rfl,eqN];unfold Ϩ;cases h1:Nat.beq c 34
  ·cases h2:Nat.beq c 92
   ·simp only[h1,h2,cond_false];unfold qd;rcases r with _|⟨a,_|⟨b,t⟩⟩
    ·rfl
    ·rfl
    ·have l4:aO ((List.length (x::c::a::b::t):Nat):Int) 4=false:=tz (by grind);simp only[l4,show aS 0 1=true from rfl,show aS 0 2=true from rfl,show aS 0 3=true from rfl,cond_true,Int.toNat_one,show Int.toNat 2=2 from rfl,show Int.toNat 3=3 from rfl,List.getElem?_cons_succ,List.getElem?_cons_zero,bH,V2,show((120:Int))=((120:Nat):Int)from rfl,eqN,evC_known (nb _),aE,aW,ah];cases h3:Nat.beq c 120
     ·rfl
     ·simp only[h3,Bool.not_true,aG,Bool.true_and];rcases EY a with ha|⟨ha,ha'⟩
      ·rw[ha];rfl
      ·rcases EY b with hb|⟨hb,hb'⟩
       ·rw[hb];simp only[tz (show ¬f6 a<0 by omega),aG];rw[show aS 0 (-1)=false from rfl,Bool.and_false];rfl
       ·simp only[tz (show ¬f6 a<0 by omega),tz (show ¬f6 b<0 by omega),aG,ji ha,ji hb,Bool.and_true,cond_true];obtain⟨i,hi⟩:=Int.eq_ofNat_of_zero_le ha;obtain⟨j,hj⟩:=Int.eq_ofNat_of_zero_le hb;have hi16:i<16:=by omega
        have hj16:j<16:=by omega
        have:=lσ.1 (lσ.1 afr i (List.mem_range.2 hi16)) j (List.mem_range.2 hj16);rw[bO,lδ]at this;simp_all;omega
   ·have:c=92:=lη h2;subst this;rfl
  ·have:c=34:=lη h1;subst this;rfl
abbrev LR:=Tk×Int×Int
def rH (e:Int):LR:=(W1,0,e)
def txtS:LN->LN->Nat->LR
 |[],_,_=>rH 13
 |c::r,out,i=>
  bif w9 c then txtS r (out++[c]) (i+1)else
  bif Nat.beq c 34 then(bif aO 64 (out.length:Int)then rH 5 else(⟨4,out,0,0⟩,((i+1:Nat):Int),0))else
  bif Nat.beq c 92 then
   match r with
   |d::r1=>bif Nat.beq d 34||Nat.beq d 92 then txtS r1 (out++[d]) (i+2)else
    match r1 with
    |a::b::r2=>bif Nat.beq d 120&&(aS 0 (f6 a)&&aS 0 (f6 b))then txtS r2 (out++[(16*f6 a+f6 b).toNat]) (i+4)else rH 13
    |_=>rH 13
   |[]=>rH 13
  else rH 13
def tv (c:Nat):Da:= .int .u8 (c:Int)
def Ku:∀(l:LN),(∀c∈l,c<256)->cX (l.map tv)=some l
 |[],_=>rfl
 |c::l,h=>by
  have ih:=Ku l fun x hx=>h x (by simp[hx])
  show(match cX (l.map tv)with|some s=>some ((c:Int).toNat % 256::s)|none=>none)=_;simp_all
def LR.d (r:LR):D:= .tup [.p r.1.e,pI r.2.1,pI r.2.2]
def jC {s:LN}{i:Nat}{c:Nat}{r:LN}(h:s.drop i=c::r):i<s.length/\s[i]?=some c/\s.drop (i+1)=r:=by
 have hi:i<s.length:=by
  by_cases h1:i<s.length
  ·exact h1
  ·rw[mτ (by omega)]at h;cases h
 rw[lι hi]at h;grind
def ru (s:LN)(i:Nat):List.take (s.length - i) (List.drop i s)=s.drop i:=by
 rw[mβ];simp
def ĺ (s:LN)(hb:∀c∈s,c<256)(hl:s.length<1000000)(hm:3<=m):∀(k:Nat) (t out:LN) (i q:Nat),t.length<=k->s.drop i=t->out.length<=i->(∀c∈out,c<256)->k<q->
  itL (jy (cE lay0.tab m) m (fun(i23,i24,i25,s26,l27)=>some ((.tup [(.p (.agg [(.int .i64 i25),(.str s26),(.int .i64 0),(.int .i64 0)])),(pI i23),(pI i24)]),[])) (fun(s28,n29,i30,s31,l32)=>some ((.tup [(.p (.agg [(.int .i64 0),(.str []),(.int .i64 0),(.int .i64 0)])),(pI 0),(pI 13)]),[]))) q (s,out.length,(i:Int),[],out.map tv)=some ((txtS t out i).d,[]):=by
 intro k;induction k with
 |zero=>
  intro t out i q ht hs ho hob hq;obtain⟨q,rfl⟩:∃j,q=j+1:=⟨q - 1,by omega⟩
  obtain rfl:t=[]:=by simp_all
  have hi:s.length<=i:=by
   simp_all
  rw[aM];simp only[jy,tz (show ¬(i:Int)<(s.length:Int) by omega),aG];rfl
 |succ k ih=>
  intro t out i q ht hs ho hob hq;obtain⟨q,rfl⟩:∃j,q=j+1:=⟨q - 1,by omega⟩
  rw[aM];cases t with
  |nil=>
   have hi:s.length<=i:=by
    simp_all
   simp only[jy,tz (show ¬(i:Int)<(s.length:Int) by omega),aG];rfl
  |cons c r=>
   obtain⟨hi,hg,hr⟩:=jC hs;have hcb:∀x∈c::r,x<256:=fun x hx=>hb x (mι (hs▸hx))
   have hlen:i+(c::r).length=s.length:=by
    grind
   have htk:List.take (s.length - i) (c::r)=c::r:=by grind
   simp only[jy,fd (show(i:Int)<(s.length:Int) by omega),ji (show(0:Int)<=(i:Int) by omega),cond_true,Int.toNat_natCast,hg,bH,V2,evC_known (IX (m:=m) (c:Int) (by omega)),aE,aj,lζ,Nat.beq_refl,hs,htk];have nx:∀(d:Nat) (j:Nat) (t':LN),d<256->s.drop (i+(j+1))=t'->t'.length<=k->
     itL (jy (cE lay0.tab m) m (fun(i23,i24,i25,s26,l27)=>some ((.tup [(.p (.agg [(.int .i64 i25),(.str s26),(.int .i64 0),(.int .i64 0)])),(pI i23),(pI i24)]),[])) (fun(s28,n29,i30,s31,l32)=>some ((.tup [(.p (.agg [(.int .i64 0),(.str []),(.int .i64 0),(.int .i64 0)])),(pI 0),(pI 13)]),[]))) q (s,List.length (out.map tv++[Da.int .u8 (d:Int)]),((i+(j+1):Nat):Int),[],out.map tv++[Da.int .u8 (d:Int)])=some ((txtS t' (out++[d]) (i+(j+1))).d,[]):=by
    intro d j t' hd hd' ht';have:=ih t' (out++[d]) (i+(j+1)) q ht' hd' (by simp;omega) (fun x hx=>by grind) (by omega);rw[<-this];simp[tv]
   have big1:∀z,cO (out.length+List.length [Da.int .u8 z]) 1=true:=fun z=>ef (by grind) (by decide)
   unfold txtS;cases hp:w9 c with
   |true=>
    simp only[az,big1,cond_true];rw[wS (show i<bX by unfold bX;omega)];exact nx c 0 r (hcb c (by simp)) hr (by simp_all)
   |false=>
    simp only[aG,cond_false,show((34:Int))=((34:Nat):Int)from rfl,show((92:Int))=((92:Nat):Int)from rfl,eqN];cases h1:Nat.beq c 34 with
    |true=>
     cases h2:aO 64 (out.length:Int)
     ·have:List.take out.length (List.drop 0 (out.map tv))=out.map tv:=by
       rw[List.drop_zero,mβ (by simp)]
      rw[this,Ku out hob,bH,wS (show i<bX by unfold bX;omega)];rfl
     ·rfl
    |false=>
     cases h2:Nat.beq c 92 with
     |false=>rfl
     |true=>
      simp only[h2,az,cond_true,ji (show(i:Int)<=(s.length:Int) by omega),evC_known (Uc (m:=m) (c::r) hm),aL,iR,aE,aW,ah,big1];cases r with
      |nil=>rfl
      |cons d r1=>
       unfold Ϩ;cases h3:(Nat.beq d 34||Nat.beq d 92)with
       |true=>
        simp only[h3,cond_true,show eqI ((2:Nat):Int) 0=false from rfl,aG];rw[show(i:Int)+((2:Nat):Int)=((i+1+1:Nat):Int) by omega,cz (by omega) (by omega)];exact nx d 1 r1 (hcb d (by simp)) (by have:=jC hr;simp_all) (by simp_all;omega)
       |false=>
        simp only[h3,cond_false];rcases r1 with _|⟨a,_|⟨b,r2⟩⟩
        ·rfl
        ·rfl
        ·simp only[];cases h4:(Nat.beq d 120&&(aS 0 (f6 a)&&aS 0 (f6 b)))with
         |false=>rfl
         |true=>
          simp only[h4,cond_true,show eqI ((4:Nat):Int) 0=false from rfl,aG];rw[show(i:Int)+((4:Nat):Int)=((i+(3+1):Nat):Int) by omega,cz (by omega) (by omega)];refine nx (16*f6 a+f6 b).toNat 3 r2 ?_ ?_ (by simp at ht;omega)
          ·have ha:=EY a;have hb:=EY b;omega
          ·have e1:=jC hr;have e2:=jC e1.2.2;have e3:=jC e2.2.2;exact e3.2.2
def Ť (c:Nat)(r:LN)(hb:∀x∈c::r,x<256)(hl:(c::r).length<1000000)(hm:(c::r).length+10<=m):Ω m 71 [pS (c::r)] []=some ((txtS r [] 1).d,[]):=by
 replace hm:=aH hm;obtain⟨m,rfl,hm⟩:=hm;apply ź m (c::r);unfold Rr;have:=ĺ (m:=m) (c::r) hb hl (by omega) (c::r).length r [] 1 m (by simp) rfl (by simp) (by simp) (by omega);grind
def Mi (s:LN):Option Int:=match Lib.parseIntB 64 (DT s)with| .ok v=>some v|_=>none
def BU (s:LN):LR:=
 match Mi (s.take (dV dX s))with
 |some v=>bif aO 1 (dV dX s:Int)&&Nat.beq (s.headD 0) 48 then rH 13 else(⟨3,s.take (dV dX s),v,0⟩,(dV dX s:Int),0)
 |none=>rH 13
def afp (m:Nat)(s:LN):Ω (m+1) 97 [pS s,pI 10,pI 64] []=xc 149 [.str s,.int .i64 10,.int .i64 64]:=by rfl
def Cl (p:Int->Bool)(s:LN):dV p s<=s.length:=by
 exact(List.takeWhile_sublist _).length_le
def Ue (s:LN)(h0:s≠[])(hl:s.length<1000000)(hm:s.length+10<=m):Ω m 70 [pS s] []=some ((BU s).d,[]):=by
 replace hm:=aH hm;obtain⟨m,rfl,hm⟩:=hm;apply UP m s;have hr:=Cl dX s;have e97:Ω m 97 [pS (s.take (dV dX s)),pI 10,pI 64] []=some (xW 149 (Lib.parseIntB 64 (DT (s.take (dV dX s)))),[]):=by
  obtain⟨m,rfl,-⟩:=aH (show 0+1<=m by omega);rw[afp];simp only[xc];rw[ji (by grind)];rfl
 unfold D9 BU Mi;simp only[evC_known (š (m:=m) s (by omega) (by unfold bX;omega)),aE,aW,ji (show(dV dX s:Int)<=(s.length:Int) by omega),Int.toNat_natCast,List.drop_zero,Nat.sub_zero,evC_known e97];obtain⟨c,r,rfl⟩:∃c r,s=c::r:=by cases s<;>simp_all
 cases hv:Lib.parseIntB 64 (DT ((c::r).take (dV dX (c::r))))with
 |ok v=>
  simp only[xW,aL,iR,nB,show aS 0 0=true from rfl,cond_true,Int.toNat_zero,List.getElem?_cons_zero,bH,V2,show((48:Int))=((48:Nat):Int)from rfl,eqN,List.headD_cons];unfold qf qg;simp only[ji (show(dV dX (c::r):Int)<=((c::r).length:Int) by omega),Nat.sub_zero];cases aO 1 (dV dX (c::r):Int)<;>cases Nat.beq c 48<;>rfl
 |_=>
  simp only[xW,aL,iR,nB];rfl
def QP (s:LN):pf s<=s.length:=by
 unfold pf;cases h:twoS.any (kA s)with
 |true=>
  obtain⟨p,hp,h⟩:=qκ.1 h;unfold kA at h;rw[ec,lδ]at h;have h2:p.length=2:=by
   simp only[twoS,or_false]at hp;grind
  grind
 |false=>
  grind
def dD:LN->LR
 |[]=>rH 0
 |c::r=>bif aO 0 (cD (c::r):Int)then
   (bif aO 32 (cD (c::r):Int)then rH 5 else bif Lz ((c::r).take (cD (c::r)))then(⟨2,(c::r).take (cD (c::r)),0,0⟩,(cD (c::r):Int),0)else(⟨1,(c::r).take (cD (c::r)),0,0⟩,(cD (c::r):Int),0))
  else bif dX c then BU (c::r)else bif Nat.beq c 34 then txtS r [] 1 else
   bif eqI (pf (c::r)) 0 then rH 13 else(⟨5,(c::r).take (pf (c::r)),0,0⟩,(pf (c::r):Int),0)
def IC (s:LN):cD s<=s.length:=by
 unfold cD;cases BB ((s.headD 0:Nat):Int)
 ·simp
 ·exact Cl _ _
def XC (c:Nat)(r:LN)(hb:∀x∈c::r,x<256)(hl:(c::r).length<1000000)(hm:(c::r).length+30<=m):Ω m 41 [pS (c::r)] []=some ((dD (c::r)).d,[]):=by
 replace hm:=aH hm;obtain⟨m,rfl,hm⟩:=hm;apply Yy m (c::r);have hw:=IC (c::r);have hs:=QP (c::r);unfold Jy dD;simp only[evC_known (Q7 (m:=m) (c::r) (by omega) (by unfold bX;omega)),aE,aW,ji (show(cD (c::r):Int)<=((c::r).length:Int) by omega),Int.toNat_natCast,List.drop_zero,evC_known (oh (m:=m) _ (by omega)),show aS 0 0=true from rfl,cond_true,Int.toNat_zero,List.getElem?_cons_zero,bH,V2,evC_known (tG (m:=m) _ (by omega)),show((34:Int))=((34:Nat):Int)from rfl,eqN,evC_known (Ue (m:=m) (c::r) (by simp) hl (by omega)),evC_known (Ť (m:=m) c r hb hl (by omega)),evC_known (DK (m:=m) (c::r) hb (by omega)),ji (show(pf (c::r):Int)<=((c::r).length:Int) by omega)];unfold sA;have q:∀a:LR,(aI a.d fun r16=>bP r16 fun d17 r18=>dP d17 fun x19=>aQ x19 fun u20=>bP r18 fun d21 r22=>dP d21 fun x23=>aP .i64 x23 fun i24=>bP r22 fun d25 r26=>dP d25 fun x27=>aP .i64 x27 fun i28=>ag r26<|ag ([]:List Ob)<|some ((.tup [(.p u20.e),(pI i24),(pI i28)]),[]))=some (a.d,[]):=fun a=>rfl
 cases aO 0 (cD (c::r):Int)with
 |true=>
  cases aO 32 (cD (c::r):Int)with
  |true=>rfl
  |false=>cases Lz ((c::r).take (cD (c::r)))<;>rfl
 |false=>
  cases dX (c:Int)with
  |true=>rfl
  |false=>
   cases Nat.beq c 34 with
   |true=>rfl
   |false=>cases eqI (pf (c::r):Int) 0<;>rfl
def wu (c:Nat):Bool:=[32,9,10,13].any fun b=>Nat.beq b c
def n8:Bool->LN->Nat
 |_,[]=>0
 |true,c::r=>n8 (Hs c) r+1
 |false,c::r=>bif wu c then n8 false r+1 else bif kA (c::r) [47,47]then n8 true r+1 else 0
def tq:∀(b:Bool) (s:LN),n8 b s<=s.length
 |b,[]=>by cases b<;>exact Nat.le_refl 0
 |true,c::r=>by have:=tq (Hs c) r;simp only[n8,List.length_cons];omega
 |false,c::r=>by
  have h1:=tq false r;have h2:=tq true r;simp only[n8,List.length_cons];grind
def Tn:∀s:LN,n8 true s=dV Hs s+n8 false (s.drop (dV Hs s))
 |[]=>rfl
 |c::r=>by
  unfold dV;rw[List.takeWhile_cons];cases h:Hs c with
  |true=>
   simp only[if_true,List.length_cons,List.drop_succ_cons,n8,h];rw[Tn r];unfold dV;omega
  |false=>
   have hc:wu c=true:=by
    unfold Hs at h;simp only[bO,Bool.not_eq_false',lδ]at h;have:c=10:=by omega
    subst this;rfl
   simp only[Bool.false_eq_true,if_false,List.length_nil,List.drop_zero,n8,h,hc,cond_true];omega
def sI {b:Int}(h:a=b):(some (pI a,[]):R)=some (pI b,[]):=by rw[h]
def WD (s:LN)(hb:∀c∈s,c<256)(hl:s.length<1000000)(hm:s.length+6<=m):∀(k:Nat) (t:LN) (i q:Nat),t.length<=k->s.drop i=t->i<=s.length->k<q->
  itL (ls (cE lay0.tab m) m (fun i16=>some ((pI i16),[])) (fun(s17,i18)=>some ((pI i18),[]))) q (s,(i:Int))=some (pI ((i+n8 false t:Nat):Int),[]):=by
 intro k;induction k with
 |zero=>
  intro t i q ht hs hi hq;obtain⟨q,rfl⟩:∃j,q=j+1:=⟨q - 1,by omega⟩
  obtain rfl:t=[]:=by cases t<;>simp_all
  have hi:s.length<=i:=by
   by_cases h:i<s.length
   ·rw[lι h]at hs;cases hs
   ·omega
  rw[aM];simp only[ls,tz (show ¬(i:Int)<(s.length:Int) by omega),aG];rfl
 |succ k ih=>
  intro t i q ht hs hi hq;obtain⟨q,rfl⟩:∃j,q=j+1:=⟨q - 1,by omega⟩
  rw[aM];cases t with
  |nil=>
   have hi:s.length<=i:=by
    by_cases h:i<s.length
    ·rw[lι h]at hs;cases hs
    ·omega
   simp only[ls,tz (show ¬(i:Int)<(s.length:Int) by omega),aG];rfl
  |cons c r=>
   obtain⟨hi',hg,hr⟩:=jC hs;have hc:c<256:=hb c (mι (hs▸mπ));have hlen:i+(c::r).length=s.length:=by
    have:=congrArg List.length hs;rw[lχ]at this;omega
   have htk:List.take (s.length - i) (c::r)=c::r:=by rw[<-hs,ru]
   simp only[ls,fd (show(i:Int)<(s.length:Int) by omega),az,ji (show(0:Int)<=(i:Int) by omega),cond_true,Int.toNat_natCast,hg,bH,V2,evC_known (tF (m:=m) [32,9,10,13] c hc (by omega)),aE,aj,aW,ah,ji (show(i:Int)<=(s.length:Int) by omega),hs,htk,evC_known (tE (m:=m) (c::r) [47,47] (by omega)),evC_known (Ţ (m:=m) (c::r) (by omega) (by unfold bX;omega)),SB];show iL (wu c) _ _=_;unfold n8;cases h1:wu c with
   |true=>
    simp only[az,cond_true];rw[wS (show i<bX by unfold bX;omega),ih r (i+1) q (by simp only[List.length_cons]at ht;omega) hr (by omega) (by omega)];exact sI (by omega)
   |false=>
    simp only[aG,cond_false];cases h2:kA (c::r) [47,47]with
    |false=>rfl
    |true=>
     simp only[az,cond_true];have hrl:=Cl Hs (c::r);have h47:Hs c=true:=by
      unfold kA at h2;rw[ec,lδ]at h2;simp only[List.length_cons,List.length_nil,List.take_succ_cons]at h2;injection h2 with h2;rw[h2];rfl
     have hr1:1<=dV Hs (c::r):=by
      unfold dV;rw[List.takeWhile_cons,h47];simp
     have e:(i:Int)+(dV Hs (c::r):Int)=((i+dV Hs (c::r):Nat):Int):=by omega
     rw[e,cz (by omega) (by omega),ih ((c::r).drop (dV Hs (c::r))) (i+dV Hs (c::r)) q (by rw[lχ];omega) (by rw[<-hs,mξ]) (by omega) (by omega)];have:=Tn (c::r);simp only[n8,h47]at this;exact sI (by omega)
def Q6 (s:LN)(hb:∀c∈s,c<256)(hl:s.length<1000000)(hm:s.length+7<=m):Ω m 40 [pS s] []=some (pI (n8 false s:Int),[]):=by
 replace hm:=aH hm;obtain⟨m,rfl,hm⟩:=hm;apply Ź m s;unfold Rq;have:=WD (m:=m) s hb hl hm s.length s 0 m (Nat.le_refl _) rfl (Nat.zero_le _) (by omega);rw[Nat.zero_add]at this;exact this
def Ft:Nat->LN->Nat->List Tk->List Tk×Int×Int
 |0,_,_,_=>([],0,0)
 |_+1,[],_,acc=>(acc,0,0)
 |q+1,c::r,i,acc=>
  bif !eqI (dD (c::r)).2.2 0 then([],(i:Int),(dD (c::r)).2.2)else
   Ft q ((c::r).drop ((dD (c::r)).2.1.toNat+n8 false ((c::r).drop (dD (c::r)).2.1.toNat))) (i+((dD (c::r)).2.1.toNat+n8 false ((c::r).drop (dD (c::r)).2.1.toNat))) (acc++[{(dD (c::r)).1 with a:=(i:Int)}])
def jf (s:LN):List Tk×Int×Int:=bif aO 6000 (s.length:Int)then([],0,5)else Ft (s.length+1) (s.drop (n8 false s)) (n8 false s) []
def By (s:LN):Prop:=∀c∈s,c<256
def By.take {s:LN}(h:By s)(n:Nat):By (s.take n):=fun c hc=>h c (qγ hc)
def By.drop {s:LN}(h:By s)(n:Nat):By (s.drop n):=fun c hc=>h c (mι hc)
def By.tail {s:LN}{c:Nat}(h:By (c::s)):By s:=fun x hx=>h x (by simp[hx])
def By.snoc {s:LN}{c:Nat}(h:By s)(hc:c<256):By (s++[c]):=fun x hx=>by
 rcases mγ.1 hx with h1|h1
 ·exact h x h1
 all_goals simp_all
def ado:∀(k:Nat) (t out:LN) (i:Nat),t.length<=k->By t->By out->By (txtS t out i).1.s/\((txtS t out i).2.2=0->(i:Int)<(txtS t out i).2.1/\(txtS t out i).2.1<=((i+t.length:Nat):Int)):=by
 intro k;induction k with
 |zero=>
  intro t out i ht hb ho;obtain rfl:t=[]:=by simp_all
  exact⟨fun c hc=>(by cases hc),fun h=>(by cases h)⟩
 |succ k ih=>
  intro t out i ht hb ho;cases t with
  |nil=>grind
  |cons c r=>
   have er:∀e,By (rH e).1.s:=fun e c hc=>by cases hc
   have hc:c<256:=hb c (by simp);simp at ht ⊢
   unfold txtS;cases w9 c with
   |true=>
    have:=ih r (out++[c]) (i+1) (by omega) hb.tail (ho.snoc hc);grind
   |false=>
    cases Nat.beq c 34 with
    |true=>
     cases aO 64 (out.length:Int)with
     |true=>exact⟨er 5,fun h=>by cases h⟩
     |false=>grind
    |false=>
     cases Nat.beq c 92 with
     |false=>exact⟨er 13,fun h=>by cases h⟩
     |true=>
      cases r with
      |nil=>exact⟨er 13,fun h=>by cases h⟩
      |cons d r1=>
       simp at ht ⊢
       cases(Nat.beq d 34||Nat.beq d 92)with
       |true=>
        have:=ih r1 (out++[d]) (i+2) (by omega) hb.tail.tail (ho.snoc (hb d (by simp)));grind
       |false=>
        rcases r1 with _|⟨a,_|⟨b,r2⟩⟩
        ·exact⟨er 13,fun h=>by cases h⟩
        ·exact⟨er 13,fun h=>by cases h⟩
        ·simp at ht ⊢
         cases h4:(Nat.beq d 120&&(aS 0 (f6 a)&&aS 0 (f6 b)))with
         |false=>exact⟨er 13,fun h=>by cases h⟩
         |true=>
          have hv:(16*f6 a+f6 b).toNat<256:=by have ha:=EY a;have hb:=EY b;omega
          have:=ih r2 (out++[(16*f6 a+f6 b).toNat]) (i+4) (by omega) hb.tail.tail.tail.tail (ho.snoc hv);grind
def It (c:Nat)(r:LN)(hb:By (c::r)):By (dD (c::r)).1.s/\((dD (c::r)).2.2=0->0<(dD (c::r)).2.1/\(dD (c::r)).2.1<=((c::r).length:Int)):=by
 have er:∀e,By (rH e).1.s:=fun e c hc=>by cases hc
 have hw:=IC (c::r);have hs:=QP (c::r);simp only[dD];cases h0:aO 0 (cD (c::r):Int)with
 |true=>
  rw[cZ,lδ]at h0;cases aO 32 (cD (c::r):Int)with
  |true=>exact⟨er 5,fun h=>by cases h⟩
  |false=>
   cases Lz ((c::r).take (cD (c::r)))<;>exact⟨hb.take _,fun _=>⟨h0,Int.ofNat_le.2 hw⟩⟩
 |false=>
  cases h1:dX (c:Int)with
  |true=>
   have hr:=Cl dX (c::r);have hr1:1<=dV dX (c::r):=by
    unfold dV;simp_all
   unfold BU;cases Mi ((c::r).take (dV dX (c::r)))with
   |none=>exact⟨er 13,fun h=>by cases h⟩
   |some v=>
    cases(aO 1 (dV dX (c::r):Int)&&Nat.beq ((c::r).headD 0) 48)with
    |true=>exact⟨er 13,fun h=>by cases h⟩
    |false=>exact⟨hb.take _,fun _=>⟨by grind,Int.ofNat_le.2 hr⟩⟩
  |false=>
   cases Nat.beq c 34 with
   |true=>
    have:=ado r.length r [] 1 (Nat.le_refl _) hb.tail (fun c hc=>by cases hc);grind
   |false=>
    cases h2:eqI (pf (c::r):Int) 0 with
    |true=>exact⟨er 13,fun h=>by cases h⟩
    |false=>
     rw[bO,lρ]at h2;exact⟨hb.take _,fun _=>⟨by grind,Int.ofNat_le.2 hs⟩⟩
def Eb (l:List Tk):Prop:=∀t∈l,By t.s
def Į:∀(q:Nat) (t:LN) (i:Nat) (acc:List Tk),By t->Eb acc->Eb (Ft q t i acc).1/\(Ft q t i acc).1.length<=acc.length+t.length
 |0,t,i,acc,hb,ha=>⟨fun t ht=>(by cases ht),Nat.zero_le _⟩
 |q+1,[],i,acc,hb,ha=>⟨ha,by simp[Ft]⟩
 |q+1,c::r,i,acc,hb,ha=>by
  have h:=It c r hb;unfold Ft;cases he:eqI (dD (c::r)).2.2 0 with
  |false=>exact⟨fun t ht=>(by cases ht),Nat.zero_le _⟩
  |true=>
   rw[bO,lδ]at he;have:=Į q ((c::r).drop ((dD (c::r)).2.1.toNat+n8 false ((c::r).drop (dD (c::r)).2.1.toNat))) (i+((dD (c::r)).2.1.toNat+n8 false ((c::r).drop (dD (c::r)).2.1.toNat))) (acc++[{(dD (c::r)).1 with a:=(i:Int)}]) (hb.drop _) (fun t ht=>by
    rcases mγ.1 ht with h1|h1
    ·exact ha t h1
    all_goals simp_all)
   grind
def NG:∀(q q':Nat) (t:LN) (i:Nat) (acc:List Tk),By t->t.length<q->t.length<q'->Ft q t i acc=Ft q' t i acc
 |q+1,q'+1,[],i,acc,hb,h1,h2=>rfl
 |q+1,q'+1,c::r,i,acc,hb,h1,h2=>by
  unfold Ft;cases he:eqI (dD (c::r)).2.2 0 with
  |false=>rfl
  |true=>
   rw[bO,lδ]at he;have h:=(It c r hb).2 he;exact NG q q' _ _ _ (hb.drop _) (by grind) (by grind)
def ĳ (r:List Tk×Int×Int):D:= .tup [pL 4 (r.1.map Tk.e),pI r.2.1,pI r.2.2]
def Ĳ (s:LN)(hb:By s)(hl:s.length<1000000)(hm:s.length+40<=m):∀(k:Nat) (t:LN) (i q:Nat) (acc:List Tk),t.length<=k->s.drop i=t->i<=s.length->acc.length<=i->k<q->
  itL (ij (cE lay0.tab m) m (fun(i28,i29,l30,u31)=>some ((.tup [(pL 4 []),(pI i28),(pI i29)]),[])) (fun(s32,n33,i34,l35)=>some ((.tup [(pL 4 (List.take n33 (List.drop 0 l35))),(pI 0),(pI 0)]),[]))) q (s,acc.length,(i:Int),acc.map Tk.e)=some (ĳ (Ft q t i acc),[]):=by
 intro k;induction k with
 |zero=>
  intro t i q acc ht hs hi ha hq;obtain⟨q,rfl⟩:∃j,q=j+1:=⟨q - 1,by omega⟩
  obtain rfl:t=[]:=by simp_all
  have hi:s.length<=i:=by
   simp_all
  rw[aM];simp only[ij,tz (show ¬(i:Int)<(s.length:Int) by omega),aG];rw[List.drop_zero,mβ (by simp)];rfl
 |succ k ih=>
  intro t i q acc ht hs hi ha hq;obtain⟨q,rfl⟩:∃j,q=j+1:=⟨q - 1,by omega⟩
  rw[aM];cases t with
  |nil=>
   have hi:s.length<=i:=by
    simp_all
   simp only[ij,tz (show ¬(i:Int)<(s.length:Int) by omega),aG];rw[List.drop_zero,mβ (by simp)];rfl
  |cons c r=>
   obtain⟨hi',hg,hr⟩:=jC hs;have hbt:By (c::r):=hs▸hb.drop i;have hlen:i+(c::r).length=s.length:=by
    grind
   have htk:List.take (s.length - i) (c::r)=c::r:=by grind
   have hT:=XC (m:=m) c r hbt (by omega) (by omega);have hok:=It c r hbt;simp only[ij,fd (show(i:Int)<(s.length:Int) by omega),ji (show(i:Int)<=(s.length:Int) by omega),Int.toNat_natCast,hs,htk,evC_known hT,LR.d,aL,iR,aE,W0,aW,ah];unfold Ft;generalize dD (c::r)=T at hok;obtain⟨T,n,e⟩:=T;simp only[]at hok ⊢
   cases he:eqI e 0 with
   |false=>rfl
   |true=>
    rw[bO,lδ]at he;obtain⟨hn0,hn1⟩:=hok.2 he;obtain⟨j,rfl⟩:=Int.eq_ofNat_of_zero_le (Int.le_of_lt hn0);have e1:(i:Int)+(j:Int)=((i+j:Nat):Int):=by omega
    have w1:ae .i64 ((i:Int)+(j:Int))=((i+j:Nat):Int):=by rw[e1,cz (by omega) (by omega)]
    have hd:s.drop (i+j)=(c::r).drop j:=by rw[<-hs,mξ]
    have htk2:List.take (s.length - (i+j)) ((c::r).drop j)=(c::r).drop j:=by grind
    have hsk:=tq false ((c::r).drop j);rw[lχ]at hsk;have hS:=Q6 (m:=m) ((c::r).drop j) (hbt.drop j) (by grind) (by grind);simp only[Bool.not_true,aG,cond_false,lζ,Nat.beq_refl,show ∀x:Nat,Nat.beq x x=true from fun x=>Nat.beq_refl x,az,ef (show acc.length+List.length [Da.agg [Da.int .i64 T.r.Kind,Da.str T.r.Text,Da.int .i64 T.r.Num,Da.int .i64 (i:Int)]]<1000000001 by grind) (show 40<=1000 by decide),w1,ji (show(0:Int)<=((i+j:Nat):Int) by omega),ji (show((i+j:Nat):Int)<=(s.length:Int) by omega),Int.toNat_natCast,hd,htk2,evC_known hS,aE,aW,ah]
    have e2:((i+j:Nat):Int)+(n8 false ((c::r).drop j):Int)=((i+(j+n8 false ((c::r).drop j)):Nat):Int):=by omega
    rw[e2,cz (by omega) (by omega)];have:=ih ((c::r).drop (j+n8 false ((c::r).drop j))) (i+(j+n8 false ((c::r).drop j))) q (acc++[{T with a:=(i:Int)}]) (by grind) (by rw[<-mξ,hs]) (by omega) (by grind) (by omega);rw[List.map_append,lα]at this;rw[lα,lζ];exact this
def Ub (s:LN)(hb:By s)(hm:6050<=m):Ω m 13 [pS s] []=some (ĳ (jf s),[]):=by
 replace hm:=aH hm;obtain⟨m,rfl,hm⟩:=hm;apply UL m s;unfold D5 jf;cases h6:aO 6000 (s.length:Int)with
 |true=>rfl
 |false=>
  rw[aG,cond_false];rw[cZ,lρ]at h6;have hl:s.length<1000000:=by omega
  simp only[evC_known (Q6 (m:=m) s hb hl (by omega)),aE,aW,ah];have hsk:=tq false s;have:=Ĳ (m:=m) s hb hl (by omega) s.length (s.drop (n8 false s)) (n8 false s) m [] (by simp) rfl hsk (Nat.zero_le _) (by omega);rw[NG (s.length+1) m _ _ _ (hb.drop _) (by grind) (by grind)];grind
def TG (s:LN)(hb:By s):Eb (jf s).1/\(jf s).1.length<=s.length:=by
 unfold jf;cases aO 6000 (s.length:Int)with
 |true=>exact⟨fun t ht=>(by cases ht),Nat.zero_le _⟩
 |false=>
  have:=Į (s.length+1) (s.drop (n8 false s)) (n8 false s) [] (hb.drop _) (fun t ht=>by cases ht);grind
variable {α:Type} {p:PM α}
def aa {β:Type}{f:α->PM β}{s:PS}{r:β×PS}(h:p.bnd f s=some r):∃a t,p s=some (a,t)/\f a t=some r:=by
 unfold PM.bnd at h;grind
def bb {g:PS->α×PS}{s:PS}{r:α×PS}(h:lf g s=some r):s.sz=true/\g s=r:=by
 unfold lf at h;grind
def aD {c:PS->Bool}{q:PM α}{s:PS}{r:α×PS}(h:cnd c p q s=some r):s.sz=true/\(c s=true/\p s=some r\/c s=false/\q s=some r):=by
 unfold cnd at h;grind
def bT {q:PM α}{s:PS}{r:α×PS}(h:cok p q s=some r):s.ok=true/\p s=some r\/s.ok=false/\q s=some r:=by
 unfold cok at h;grind
def ei {l:List LN}{f:LN->PM α}{s:PS}{r:α×PS}(h:fnO l p f s=some r):s.sz=true/\(l.find? s.is=none/\p s=some r\/∃o,l.find? s.is=some o/\f o s=some r):=by
 unfold fnO at h;grind
def au {a b:α}{s t:PS}(h:PM.ret a s=some (b,t)):a=b/\s=t:=by
 unfold PM.ret at h;simp_all
def vw {s:PS}(h:s.sz=true):s.ps<=s.tk.length/\s.tk.length<1000000/\∀t∈s.tk,By t.s:=by
 unfold PS.sz at h;simp at h;exact⟨h.1,h.2.1,h.2.2⟩
def TF (s:PS)(i:Nat):cp (s.tk.map Tk.e) (i:Int)=(s.tk[i]?).map Tk.e:=by rw[bg,la]
def mQ {s:PS}(h:s.sz=true)(i:Nat)(hp:(s.peek i).k≠0):s.ps+i<s.tk.length:=by
 unfold PS.peek at hp;by_cases hl:s.ps+i<s.tk.length
 ·exact hl
 ·rw[lξ (by omega)]at hp;exact absurd (by cases s.ok<;>rfl) hp
def eG {s:PS}(h:s.sz=true){x:LN}(hp:s.is x=true):s.ps<s.tk.length:=by
 refine mQ h 0 fun e=>?_
 unfold PS.is at hp;rw[e]at hp;cases hp
def WT {s:PS}(h:s.sz=true)(hp:s.ps<s.tk.length):ae .i64 ((s.ps:Int)+1)=((s.ps+1:Nat):Int):=wS (by have:=vw h;unfold bX;omega)
def mO {β:Type}(f:α->β)(l:List α):((l.map f).length:Int)=(l.length:Int):=by simp
def iH (s:PS)(hm:1<=m):Ω m 42 [.box 0 0] s.A.hp=some (pB s.ok,s.A.hp):=by
 replace hm:=aH hm;obtain⟨m,rfl,hm⟩:=hm;rfl
def iG (s:PS)(e:Int)(hm:1<=m):Ω m 44 [.box 0 0,pI e] s.A.hp=some (.tup [],(s.fail e).A.hp):=by
 replace hm:=aH hm;obtain⟨m,rfl,hm⟩:=hm;apply Ye m s.A e;unfold Je PS.fail;show iL (!s.ok) _ (iL (aO (s.ps:Int) ((s.tk.map Tk.e).length:Int)) (cL (cp (s.tk.map Tk.e) (s.ps:Int)) _) _)=_;cases s.ok with
 |false=>rfl
 |true=>
  rw[mO,TF];by_cases h:s.ps<s.tk.length
  ·rw[fd (by omega),lθ h];rfl
  ·rw[tz (by omega),lξ (by omega)];rfl
def lx (s:PS)(i:Nat)(hi:i<1000)(hz:s.sz=true)(hm:60<=m):Ω m 73 [.box 0 0,pI (i:Int)] s.A.hp=some (.p (s.peek i).e,s.A.hp):=by
 replace hm:=aH hm;obtain⟨m,rfl,hm⟩:=hm;obtain⟨h1,h2,h3⟩:=vw hz;apply Yp m s.A i;unfold Jq PS.peek;simp only[evC_known (iH (m:=m) s (by omega)),cP];cases s.ok with
 |false=>rfl
 |true=>
  have hat:cp s.A.tk (ae .i64 (s.A.ps+(i:Int)))=(s.tk[s.ps+i]?).map Tk.e:=by
   show cp (s.tk.map Tk.e) (ae .i64 ((s.ps:Int)+(i:Int)))=_;rw[show(s.ps:Int)+(i:Int)=((s.ps+i:Nat):Int) by omega,cz (by omega) (by omega),TF]
  have hle:aS (s.A.tk.length:Int) (ae .i64 (s.A.ps+(i:Int)))=aS (s.tk.length:Int) ((s.ps+i:Nat):Int):=by
   show aS ((s.tk.map Tk.e).length:Int) (ae .i64 ((s.ps:Int)+(i:Int)))=_;rw[show(s.ps:Int)+(i:Int)=((s.ps+i:Nat):Int) by omega,cz (by omega) (by omega),mO]
  simp only[hle,hat,cond_true];by_cases h:s.ps+i<s.tk.length
  ·rw[leF (by omega),lθ h,aG];have hb:=h3 _ (lπ h);have hp:=DJ (m:=m) s.tk[s.ps+i] hb (by omega);have hp':Ω m 99 [.p (Tk.r s.tk[s.ps+i]).e] []=some (pB (bc s.tk[s.ps+i]),[]):=hp;simp only[Option.map_some,bH,W0,evC_known hp',cond_true];cases bc s.tk[s.ps+i]<;>rfl
  ·rw[ji (by omega),lξ (by omega)];rfl
def jl (s:PS)(x:LN)(hz:s.sz=true)(hm:61<=m):Ω m 43 [.box 0 0,pS x] s.A.hp=some (pB (s.is x),s.A.hp):=by
 replace hm:=aH hm;obtain⟨m,rfl,hm⟩:=hm;apply abx m s.A x;unfold XL PS.is;have hp:=lx (m:=m) s 0 (by decide) hz hm;simp at hp;simp only[evC_known hp,cP];show iL (eqI (s.peek 0).k 2) _ (iL (eqI (s.peek 0).k 5) _ _)=_;cases eqI (s.peek 0).k 2<;>cases eqI (s.peek 0).k 5<;>rfl
def dW (s:PS)(x:LN)(hz:s.sz=true)(hm:62<=m):Ω m 100 [.box 0 0,pS x] s.A.hp=some (pB (s.is x),(bif s.is x then s.up else s).A.hp):=by
 replace hm:=aH hm;obtain⟨m,rfl,hm⟩:=hm;apply OK m s.A x;unfold zU;simp only[evC_known (jl (m:=m) s x hz hm),cP];cases hx:s.is x with
 |false=>rfl
 |true=>
  show some (_,bE.hp {s.A with ps:=ae .i64 ((s.ps:Int)+1)})=_;rw[WT hz (eG hz hx)];rfl
def sh (s:PS)(x:LN)(hz:s.sz=true)(hm:63<=m):Ω m 74 [.box 0 0,pS x] s.A.hp=some (.tup [],(s.exp x).A.hp):=by
 replace hm:=aH hm;obtain⟨m,rfl,hm⟩:=hm;apply OT m s.A x;unfold z7 PS.exp;simp only[evC_known (dW (m:=m) s x hz hm),aE,aj,cP];cases hx:s.is x with
 |false=>simp only[Bool.not_false,az,cond_false,evC_known (iG (m:=m) s 13 (by omega)),aL,ah,cP]
 |true=>rfl
def Xz (s:PS)(k:Int)(hk:k≠0)(hz:s.sz=true)(hm:62<=m):Ω m 101 [.box 0 0,pI k] s.A.hp=some (.p (s.take k).1.e,(s.take k).2.A.hp):=by
 replace hm:=aH hm;obtain⟨m,rfl,hm⟩:=hm;apply Yr m s.A k;unfold Js PS.take;have hp:=lx (m:=m) s 0 (by decide) hz (by omega);simp at hp;simp only[evC_known hp,aE,W0,cP,show(s.peek 0).r.Kind=(s.peek 0).k from rfl,evC_known (iG (m:=m) s 13 (by omega)),ah];cases hx:eqI (s.peek 0).k k with
 |false=>rfl
 |true=>
  rw[bO,lδ]at hx;show some (_,bE.hp {s.A with ps:=ae .i64 ((s.ps:Int)+1)})=_;rw[WT hz (mQ hz 0 (by omega))];rfl
def Xv (s:PS)(hz:s.sz=true)(hm:63<=m):Ω m 75 [.box 0 0] s.A.hp=some (pS (s.take 1).1.s,(s.take 1).2.A.hp):=by
 replace hm:=aH hm;obtain⟨m,rfl,hm⟩:=hm;apply Yn m s.A;unfold Jo;simp only[evC_known (Xz (m:=m) s 1 (by decide) hz hm),cP];rfl
def Xt (s:PS)(hz:s.sz=true)(hm:80<=m):Ω m 102 [.box 0 0] s.A.hp=some (pI (dn kindL 1 s).1,(dn kindL 1 s).2.A.hp):=by
 replace hm:=aH hm;obtain⟨m,rfl,hm⟩:=hm;apply Yh m s.A;unfold Jh;replace hm:∃k,m=k+7/\72<=k:=⟨m - 7,by omega,by omega⟩
 obtain⟨m,rfl,hm⟩:=hm;have ha:=fun x=>dW (m:=m+7) s x hz (by omega)
 simp only[aM,sC,show ae .i64 (0+1)=1 from rfl,show ae .i64 (1+1)=2 from rfl,show ae .i64 (2+1)=3 from rfl,show ae .i64 (3+1)=4 from rfl,show ae .i64 (4+1)=5 from rfl,
  show aO 0 5=true from rfl,show aO 1 5=true from rfl,show aO 2 5=true from rfl,show aO 3 5=true from rfl,show aO 4 5=true from rfl,show aO 5 5=false from rfl,show aS 0 0=true from rfl,show aS 0 1=true from rfl,show aS 0 2=true from rfl,show aS 0 3=true from rfl,show aS 0 4=true from rfl,az,show Int.toNat 0=0 from rfl,show Int.toNat 1=1 from rfl,show Int.toNat 2=2 from rfl,show Int.toNat 3=3 from rfl,show Int.toNat 4=4 from rfl,List.getElem?_cons_zero,List.getElem?_cons_succ,bH,cV,evC_known (ha _),cP]
 unfold kindL;simp only[dn];cases h1:s.is [105,110,116]with
 |true=>rfl
 |false=>
  simp;simp only[evC_known (ha _),aE,aj,cP];cases h2:s.is [98,111,111,108]with
  |true=>rfl
  |false=>
   simp;simp only[evC_known (ha _),aE,aj,cP];cases h3:s.is [115,116,114,105,110,103]with
   |true=>rfl
   |false=>
    simp;simp only[evC_known (ha _),aE,aj,cP];cases h4:s.is [105,110,116,115]with
    |true=>rfl
    |false=>
     simp;simp only[evC_known (ha _),aE,aj,cP];cases h5:s.is [115,116,114,105,110,103,115]with
     |true=>rfl
     |false=>
      simp only[aG,cond_false,evC_known (iG (m:=m+7) s 13 (by omega)),aL,ah,cP]
def pU (s:PS)(hm:1<=m):Ω m 42 [.box 0 0] s.B.hp=some (pB s.ok,s.B.hp):=by
 replace hm:=aH hm;obtain⟨m,rfl,hm⟩:=hm;rfl
def dQ (s:PS)(e:Int)(hm:1<=m):Ω m 44 [.box 0 0,pI e] s.B.hp=some (.tup [],(s.fail e).B.hp):=by
 replace hm:=aH hm;obtain⟨m,rfl,hm⟩:=hm;apply Yf m s.B e;unfold Jf PS.fail;show iL (!s.ok) _ (iL (aO (s.ps:Int) ((s.tk.map Tk.e).length:Int)) (cL (cp (s.tk.map Tk.e) (s.ps:Int)) _) _)=_;cases s.ok with
 |false=>rfl
 |true=>
  rw[mO,TF];by_cases h:s.ps<s.tk.length
  ·rw[fd (by omega),lθ h];rfl
  ·rw[tz (by omega),lξ (by omega)];rfl
def ly (s:PS)(i:Nat)(hi:i<1000)(hz:s.sz=true)(hm:60<=m):Ω m 73 [.box 0 0,pI (i:Int)] s.B.hp=some (.p (s.peek i).e,s.B.hp):=by
 replace hm:=aH hm;obtain⟨m,rfl,hm⟩:=hm;obtain⟨h1,h2,h3⟩:=vw hz;apply Yq m s.B i;unfold Jr PS.peek;simp only[evC_known (pU (m:=m) s (by omega)),jh];cases s.ok with
 |false=>rfl
 |true=>
  have hat:cp s.B.tk (ae .i64 (s.B.ps+(i:Int)))=(s.tk[s.ps+i]?).map Tk.e:=by
   show cp (s.tk.map Tk.e) (ae .i64 ((s.ps:Int)+(i:Int)))=_;rw[show(s.ps:Int)+(i:Int)=((s.ps+i:Nat):Int) by omega,cz (by omega) (by omega),TF]
  have hle:aS (s.B.tk.length:Int) (ae .i64 (s.B.ps+(i:Int)))=aS (s.tk.length:Int) ((s.ps+i:Nat):Int):=by
   show aS ((s.tk.map Tk.e).length:Int) (ae .i64 ((s.ps:Int)+(i:Int)))=_;rw[show(s.ps:Int)+(i:Int)=((s.ps+i:Nat):Int) by omega,cz (by omega) (by omega),mO]
  simp only[hle,hat,cond_true];by_cases h:s.ps+i<s.tk.length
  ·rw[leF (by omega),lθ h,aG];have hb:=h3 _ (lπ h);have hp:=DJ (m:=m) s.tk[s.ps+i] hb (by omega);have hp':Ω m 99 [.p (Tk.r s.tk[s.ps+i]).e] []=some (pB (bc s.tk[s.ps+i]),[]):=hp;simp only[Option.map_some,bH,W0,evC_known hp',cond_true];cases bc s.tk[s.ps+i]<;>rfl
  ·rw[ji (by omega),lξ (by omega)];rfl
def og (s:PS)(x:LN)(hz:s.sz=true)(hm:61<=m):Ω m 43 [.box 0 0,pS x] s.B.hp=some (pB (s.is x),s.B.hp):=by
 replace hm:=aH hm;obtain⟨m,rfl,hm⟩:=hm;apply aby m s.B x;unfold XM PS.is;have hp:=ly (m:=m) s 0 (by decide) hz hm;simp at hp;simp only[evC_known hp,jh];show iL (eqI (s.peek 0).k 2) _ (iL (eqI (s.peek 0).k 5) _ _)=_;cases eqI (s.peek 0).k 2<;>cases eqI (s.peek 0).k 5<;>rfl
def fH (s:PS)(x:LN)(hz:s.sz=true)(hm:62<=m):Ω m 100 [.box 0 0,pS x] s.B.hp=some (pB (s.is x),(bif s.is x then s.up else s).B.hp):=by
 replace hm:=aH hm;obtain⟨m,rfl,hm⟩:=hm;apply OL m s.B x;unfold zV;simp only[evC_known (og (m:=m) s x hz hm),jh];cases hx:s.is x with
 |false=>rfl
 |true=>
  show some (_,cg.hp {s.B with ps:=ae .i64 ((s.ps:Int)+1)})=_;rw[WT hz (eG hz hx)];rfl
def NY (s:PS)(x:LN)(hz:s.sz=true)(hm:63<=m):Ω m 74 [.box 0 0,pS x] s.B.hp=some (.tup [],(s.exp x).B.hp):=by
 replace hm:=aH hm;obtain⟨m,rfl,hm⟩:=hm;apply OU m s.B x;unfold z8 PS.exp;simp only[evC_known (fH (m:=m) s x hz hm),aE,aj,jh];cases hx:s.is x with
 |false=>simp only[Bool.not_false,az,cond_false,evC_known (dQ (m:=m) s 13 (by omega)),aL,ah,jh]
 |true=>rfl
def tD (s:PS)(k:Int)(hk:k≠0)(hz:s.sz=true)(hm:62<=m):Ω m 101 [.box 0 0,pI k] s.B.hp=some (.p (s.take k).1.e,(s.take k).2.B.hp):=by
 replace hm:=aH hm;obtain⟨m,rfl,hm⟩:=hm;apply Ys m s.B k;unfold Jt PS.take;have hp:=ly (m:=m) s 0 (by decide) hz (by omega);simp at hp;simp only[evC_known hp,aE,W0,jh,show(s.peek 0).r.Kind=(s.peek 0).k from rfl,evC_known (dQ (m:=m) s 13 (by omega)),ah];cases hx:eqI (s.peek 0).k k with
 |false=>rfl
 |true=>
  rw[bO,lδ]at hx;show some (_,cg.hp {s.B with ps:=ae .i64 ((s.ps:Int)+1)})=_;rw[WT hz (mQ hz 0 (by omega))];rfl
def Xw (s:PS)(hz:s.sz=true)(hm:63<=m):Ω m 75 [.box 0 0] s.B.hp=some (pS (s.take 1).1.s,(s.take 1).2.B.hp):=by
 replace hm:=aH hm;obtain⟨m,rfl,hm⟩:=hm;apply Yo m s.B;unfold Jp;simp only[evC_known (tD (m:=m) s 1 (by decide) hz hm),jh];rfl
def Xu (s:PS)(hz:s.sz=true)(hm:80<=m):Ω m 102 [.box 0 0] s.B.hp=some (pI (dn kindL 1 s).1,(dn kindL 1 s).2.B.hp):=by
 replace hm:=aH hm;obtain⟨m,rfl,hm⟩:=hm;apply Yi m s.B;unfold Ji;replace hm:∃k,m=k+7/\72<=k:=⟨m - 7,by omega,by omega⟩
 obtain⟨m,rfl,hm⟩:=hm;have ha:=fun x=>fH (m:=m+7) s x hz (by omega)
 simp only[aM,sD,show ae .i64 (0+1)=1 from rfl,show ae .i64 (1+1)=2 from rfl,show ae .i64 (2+1)=3 from rfl,show ae .i64 (3+1)=4 from rfl,show ae .i64 (4+1)=5 from rfl,
  show aO 0 5=true from rfl,show aO 1 5=true from rfl,show aO 2 5=true from rfl,show aO 3 5=true from rfl,show aO 4 5=true from rfl,show aO 5 5=false from rfl,show aS 0 0=true from rfl,show aS 0 1=true from rfl,show aS 0 2=true from rfl,show aS 0 3=true from rfl,show aS 0 4=true from rfl,az,show Int.toNat 0=0 from rfl,show Int.toNat 1=1 from rfl,show Int.toNat 2=2 from rfl,show Int.toNat 3=3 from rfl,show Int.toNat 4=4 from rfl,List.getElem?_cons_zero,List.getElem?_cons_succ,bH,cV,evC_known (ha _),jh]
 unfold kindL;simp only[dn];cases h1:s.is [105,110,116]with
 |true=>rfl
 |false=>
  simp;simp only[evC_known (ha _),aE,aj,jh];cases h2:s.is [98,111,111,108]with
  |true=>rfl
  |false=>
   simp;simp only[evC_known (ha _),aE,aj,jh];cases h3:s.is [115,116,114,105,110,103]with
   |true=>rfl
   |false=>
    simp;simp only[evC_known (ha _),aE,aj,jh];cases h4:s.is [105,110,116,115]with
    |true=>rfl
    |false=>
     simp;simp only[evC_known (ha _),aE,aj,jh];cases h5:s.is [115,116,114,105,110,103,115]with
     |true=>rfl
     |false=>
      simp only[aG,cond_false,evC_known (dQ (m:=m+7) s 13 (by omega)),aL,ah,jh]
def xw {s t:PS}{n:Int}(h:pInt s=some (n,t))(hm:65<=m):Ω m 118 [.box 0 0] s.B.hp=some (pI n,t.B.hp):=by
 replace hm:=aH hm;obtain⟨m,rfl,hm⟩:=hm;apply JW m s.B;unfold xz;obtain⟨hz,h⟩:=aD h;simp only[evC_known (fH (m:=m) s _ hz (by omega)),jh];rcases h with⟨hc,h⟩|⟨hc,h⟩
 ·obtain⟨_,s1,h1,h⟩:=aa h;obtain⟨-,h1⟩:=bb h1;injection h1 with _ h1;subst h1;obtain⟨k,s2,h2,h⟩:=aa h;obtain⟨hz2,h2⟩:=bb h2;obtain⟨rfl,rfl⟩:=au h;simp only[hc,cond_true,evC_known (tD (m:=m) s.up 3 (by decide) hz2 (by omega)),h2];rfl
 ·obtain⟨k,s2,h2,h⟩:=aa h;obtain⟨hz2,h2⟩:=bb h2;obtain⟨rfl,rfl⟩:=au h;simp only[hc,cond_false,evC_known (tD (m:=m) s 3 (by decide) hz2 (by omega)),h2];rfl
def ze (s:PS)(x:LN)(hz:s.sz=true)(hm:65<=m):Ω m 121 [.box 0 0,pS x] s.A.hp=some (.tup [],(s.open x).A.hp):=by
 replace hm:=aH hm;obtain⟨m,rfl,hm⟩:=hm;apply Ų m s.A x;unfold Rj PS.open PS.opn1 q5;have e:=fun(s:PS) (hz:s.sz=true)=>sh (m:=m) s x hz (by omega)
 have hf:(s.fail 5).sz=true:=by
  unfold PS.fail;cases s.ok<;>exact hz
 simp only[evC_known (jl (m:=m) s x hz (by omega)),aE,aj,cP,evC_known (iG (m:=m) s 5 (by omega)),aL,ah,evC_known (e s hz),evC_known (e _ hf),show s.A.ne=s.ne from rfl];cases s.is x<;>cases eqI s.ne 24<;>rfl
def zN (s:PS)(x:LN)(hz:s.sz=true)(hm:65<=m):Ω m 124 [.box 0 0,pS x] s.A.hp=some (.tup [],(s.close x).A.hp):=by
 replace hm:=aH hm;obtain⟨m,rfl,hm⟩:=hm;apply Yc m s.A x;unfold Jc PS.close;simp only[evC_known (sh (m:=m) s x hz (by omega)),aL,ah,cP];rfl
def q7 {x:No}{s t:PS}{i:Int}(h:eb x s=some (i,t)):s.nd.length<1000000/\x.kids.length<1000000/\s.add x=(i,t):=by
 unfold eb at h;cases hb:(decide (s.nd.length<1000000)&&decide (x.kids.length<1000000))with
 |false=>rw[hb]at h;cases h
 |true=>
  rw[hb]at h;rw[lγ,lδ,lδ]at hb;exact⟨hb.1,hb.2,Option.some.inj h⟩
def od {s t:PS}{x:No}{i:Int}(h:eb x s=some (i,t))(hm:2<=m):Ω m 123 [.box 0 0,.p x.e] s.A.hp=some (pI i,t.A.hp):=by
 replace hm:=aH hm;obtain⟨m,rfl,hm⟩:=hm;obtain⟨h1,h2,h3⟩:=q7 h;apply abv m s.A x.r;unfold XJ;simp only[evC_known (iH (m:=m) s hm),aE,aj,cP];unfold PS.add at h3;cases hk:s.ok with
 |false=>
  rw[hk,cond_false]at h3;injection h3 with h3 h4;subst h3 h4;rfl
 |true=>
  rw[hk,cond_true]at h3;injection h3 with h3 h4;subst h3 h4;have hl:s.A.no.length=s.nd.length:=lζ ..
  have hb:Nat.beq s.A.nd s.A.no.length=true:=by rw[hl];exact Nat.beq_refl _
  simp only[Bool.not_true,aG,hb,az];rw[ef (by rw[hl];show s.nd.length+1<_;omega) (by decide),az];have e1:(s.A.no++[Da.agg [Da.int .i64 x.r.Op,Da.str x.r.Name,Da.int .i64 x.r.Value_Kind,Da.int .i64 x.r.Value_N,Da.str x.r.Value_S,Da.slice 1 x.r.Value_I,Da.slice 1 x.r.Value_L,Da.slice 1 x.r.Kids]])=(s.nd++[x]).map No.e:=by
   rw[List.map_append];rfl
  rw[e1,lζ,lα,List.length_singleton];have e2:ae .i64 (((s.nd.length+1:Nat):Int) - 1)=(s.nd.length:Int):=by
   rw[show((s.nd.length+1:Nat):Int) - 1=(s.nd.length:Int) by omega,cz (by omega) (by omega)]
  rw[e2];show some (_,bE.hp ⟨_,_,_,_,_,_,_,s.nd.length+1,(s.nd++[x]).map No.e⟩)=some (_,bE.hp ⟨_,_,_,_,_,_,_,(s.nd++[x]).length,(s.nd++[x]).map No.e⟩);rw[lα,List.length_singleton];rfl
def PS.K (s:PS)(l:LD):OE:=⟨s.tk.map Tk.e,s.ps,s.en,s.aT,s.er,s.ne,s.tt,s.nd.length,l,s.nd.map No.e⟩
def PS.D (s:PS)(l:LD):XW:=⟨s.tk.map Tk.e,s.ps,s.en,s.aT,s.er,s.ne,s.tt,s.nd.length,l,s.nd.map No.e⟩
def dPD (c:XW)(K:XW->R):KQ c.hp K=K c:=rfl
variable {nm tx:LN}
def ŝ {s t:PS}{op:Int}{l:LI}{i:Int}(h:eb ⟨op,nm,⟨0,0,tx,[],[]⟩,l⟩ s=some (i,t))(hm:2<=m):
  Ω m 123 [.box 0 0,.agg [pI op,pS nm,pI 0,pI 0,pS tx,pL 1 [],pL 1 [],.arr 1 0 l.length 1]] (s.K (l.map iE)).hp=some (pI i,(t.D (l.map iE)).hp):=by
 replace hm:=aH hm;obtain⟨m,rfl,hm⟩:=hm;obtain⟨h1,h2,h3⟩:=q7 h;apply ŭ m (s.K (l.map iE)) op nm tx l.length;unfold Re;have ho:Ω m 42 [.box 0 0] (bE.mk (s.K (l.map iE)).tk (s.K (l.map iE)).ps (s.K (l.map iE)).en (s.K (l.map iE)).aT (s.K (l.map iE)).er (s.K (l.map iE)).ne (s.K (l.map iE)).tt (s.K (l.map iE)).nd (s.K (l.map iE)).no).hp=some (pB s.ok,s.A.hp):=iH (m:=m) s hm;simp only[evC_known ho,aE,aj,cP];unfold PS.add at h3;cases hk:s.ok with
 |false=>
  rw[hk,cond_false]at h3;injection h3 with h3 h4;subst h3 h4;rfl
 |true=>
  rw[hk,cond_true]at h3;injection h3 with h3 h4;subst h3 h4;have hl:s.A.no.length=s.nd.length:=lζ ..
  have hb:Nat.beq s.A.nd s.A.no.length=true:=by rw[hl];exact Nat.beq_refl _
  simp only[Bool.not_true,aG,hb,az];rw[ef (by rw[hl];show s.nd.length+1<_;omega) (by decide),az];have e0:List.take l.length (List.drop 0 (s.K (l.map iE)).kl)=l.map iE:=by
   show List.take l.length (List.drop 0 (l.map iE))=_;rw[List.drop_zero,mβ (by rw[lζ];omega)]
  rw[e0];have e1:(s.A.no++[Da.agg [Da.int .i64 op,Da.str nm,Da.int .i64 0,Da.int .i64 0,Da.str tx,Da.slice 1 [],Da.slice 1 [],Da.slice 1 (l.map iE)]])=(s.nd++[(⟨op,nm,⟨0,0,tx,[],[]⟩,l⟩:No)]).map No.e:=by
   rw[List.map_append];rfl
  rw[e1,lζ,lα,List.length_singleton];have e2:ae .i64 (((s.nd.length+1:Nat):Int) - 1)=(s.nd.length:Int):=by
   rw[show((s.nd.length+1:Nat):Int) - 1=(s.nd.length:Int) by omega,cz (by omega) (by omega)]
  rw[e2];show some (_,XW.hp ⟨_,_,_,_,_,_,_,s.nd.length+1,_,(s.nd++[(⟨op,nm,⟨0,0,tx,[],[]⟩,l⟩:No)]).map No.e⟩)=some (_,XW.hp ⟨_,_,_,_,_,_,_,(s.nd++[(⟨op,nm,⟨0,0,tx,[],[]⟩,l⟩:No)]).length,_,(s.nd++[(⟨op,nm,⟨0,0,tx,[],[]⟩,l⟩:No)]).map No.e⟩);rw[lα,List.length_singleton];rfl
def T7 (s:PS)(hz:s.sz=true)(hm:65<=m):Ω m 153 [.box 0 0] s.A.hp=some (pB s.begins,s.A.hp):=by
 replace hm:=aH hm;obtain⟨m,rfl,hm⟩:=hm;apply UD m s.A;unfold DY PS.begins mE qc beginL;have hp:=lx (m:=m) s 0 (by decide) hz (by omega);simp only[show((0:Nat):Int)=0 from rfl]at hp;have hk:(s.peek 0).r.Kind=(s.peek 0).k:=rfl;have ht:(s.peek 0).r.Text=(s.peek 0).s:=rfl;simp only[evC_known hp,aE,W0,cP,hk,ht,List.any_cons,List.any_nil,Bool.or_false];generalize s.A.hp=hp0;generalize(s.peek 0).k=k;generalize(s.peek 0).s=tx;cases eqI k 1
 ·cases eqI k 3
  ·cases eqI k 4
   ·cases eqI k 2<;>cases eqI k 5<;>cases bv tx [116,114,117,101]<;>cases bv tx [102,97,108,115,101]<;>cases bv tx [115,101,108,102]<;>cases bv tx [105,110,116,115]<;>cases bv tx [115,116,114,105,110,103,115]<;>cases bv tx [40]<;>cases bv tx [45]<;>cases bv tx [33]<;>rfl
   ·rfl
  ·rfl
 ·rfl
def iF (s:PS)(l:List LN)(hl:l.length<1000)(hz:s.sz=true)(hm:l.length+70<=m):Ω m 155 [pL 1 (l.map .str),.fn 1000100 [.box 0 0]] s.A.hp=
  some (pI (match l.findIdx? s.is with|some j=>(j:Int)|none=> -1),(match l.findIdx? s.is with|some j=>s.up|none=>s).A.hp):=by
 replace hm:=aH hm;obtain⟨m,rfl,hm⟩:=hm;apply FW m s.A (l.map .str);unfold tM;rw[lζ];refine(cd l (fun q i=>itL (fQ _ m _ _) q (l.map .str,(l.length:Int),i,s.A)) s.is (fun i=>some (pI i,s.up.A.hp)) (some (pI (-1),s.A.hp)) (fun q i hi=>?_) (fun q=>?_) (by omega)).trans ?_
 ·rw[aM];simp only[fQ,fd (show((i:Int)<(l.length:Int)) by omega),az,bg,cS,bI hi,bH,cV,wS (show i<bX by unfold bX;omega),evC_known (dW (m:=m) s l[i] hz (by omega)),aE,aj,cP];cases s.is l[i]<;>rfl
 ·rw[aM];simp only[fQ,dJ,aG]
 ·cases l.findIdx? s.is<;>rfl
def Ln {α:Type}(p:α->Bool):∀(l:List α),l.find? p=(l.findIdx? p).bind fun j=>l[j]?
 |[]=>rfl
 |x::r=>by
  simp only[qε,List.find?_cons];cases p x
  ·simp only[Bool.false_eq_true,if_false];rw[Ln p r];cases r.findIdx? p<;>rfl
  ·rfl
def fF (m g:Nat)(p:PM Int):Prop:=∀(s t:PS) (a:Int),p s=some (a,t)->Ω m g [.box 0 0] s.A.hp=some (pI a,t.A.hp)
def nG (l:List α)(p:α->Bool):(l.findIdx? p=none/\l.find? p=none)\/∃j o,l.findIdx? p=some j/\l.find? p=some o/\l[j]?=some o/\p o=true/\j<l.length:=by
 cases h:l.findIdx? p with
 |none=>simp_all
 |some j=>
  obtain⟨hj,hp,-⟩:=qζ.1 h;exact .inr ⟨j,l[j],rfl,by rw[Ln,h];simp,lθ hj,hp,hj⟩
def cW {s t:PS}{u:Unit}(h:pUp s=some (u,t)):s.sz=true/\s.up=t:=by
 obtain⟨h1,h2⟩:=bb h;simp_all
def zl:aO (-1) 0=true:=rfl
def rX {m:Nat}{ex:PM Int}(hx:fF m 147 ex)(hm:100<=m)(k0:Int×bE->R):∀(q':Nat) (s t:PS) (x a:Int),gY ex [[124,124]] q' x s=some (a,t)->∀Q,q'<=Q->
  itL (jM (cE lay0.tab m) m k0) Q ([.str [124,124]],x,s.A)=k0 (a,t.A)
 |0,s,t,x,a,h,Q,hQ=>by cases h
 |q'+1,s,t,x,a,h,Q,hQ=>by
  obtain⟨Q,rfl⟩:∃j,Q=j+1:=⟨Q - 1,by omega⟩
  rw[aM];obtain⟨hz,h⟩:=ei h;have hI:=iF (m:=m) s [[124,124]] (by decide) hz (by grind);simp only[List.map_cons,List.map_nil]at hI;simp only[jM,evC_known hI,aE,aW,cP];rcases nG [[124,124]] s.is with⟨e1,e2⟩|⟨j,o,e1,e2,e3,e4,e5⟩
  ·rcases h with⟨-,h⟩|⟨o',h1,-⟩
   ·obtain⟨rfl,rfl⟩:=au h;simp only[e1,zl,az]
   all_goals simp_all
  ·rcases h with⟨h1,-⟩|⟨o',h1,h⟩
   ·simp_all
   ·rw[e2]at h1;cases h1;obtain⟨_,s1,h1,h⟩:=aa h;obtain⟨-,rfl⟩:=cW h1;obtain⟨y,s2,h2,h⟩:=aa h;obtain⟨z,s3,h3,h⟩:=aa h;have hat:cp [.str [124,124]] (j:Int)=some (Da.str o):=by
     have:cp (List.map Da.str [[124,124]]) (j:Int)=some (Da.str o):=by rw[bg,la,e3];rfl
     grind
    have ha:=od (m:=m) h3 (by omega);have ha':Ω m 123 [.box 0 0,.p (.agg [(.int .i64 5),(.str o),(.int .i64 0),(.int .i64 0),(.str []),(.slice 1 []),(.slice 1 []),(.slice 1 [Da.int .i64 x,Da.int .i64 y])])] s2.A.hp=some (pI z,s3.A.hp):=ha;simp only[e1,evC_known (hx _ _ _ h2),aE,aW,cP,hat,bH,cV,evC_known ha'];exact rX hx hm k0 q' s3 t z a h Q (by omega)
variable {q:Nat}
def IT {ex:PM Int}(hx:fF m 147 ex)(hm:100<=m)(hq:q<=m){s t:PS}(h:f7 ex [[124,124]] q s=some (a,t)):
  Ω (m+1) 146 [.box 0 0,.fn 1000147 [.box 0 0],pL 1 [.str [124,124]]] s.A.hp=some (pI a,t.A.hp):=by
 apply JZ m s.A;unfold xB;obtain⟨x,s1,h1,h⟩:=aa h;simp only[evC_known (hx _ _ _ h1),cP];exact rX hx hm _ q s1 t x a h m hq
def uT {m:Nat}{ex:PM Int}(hx:fF m 156 ex)(hm:100<=m)(k0:Int×bE->R):∀(q':Nat) (s t:PS) (x a:Int),gY ex [[38,38]] q' x s=some (a,t)->∀Q,q'<=Q->
  itL (kZ (cE lay0.tab m) m k0) Q ([.str [38,38]],x,s.A)=k0 (a,t.A)
 |0,s,t,x,a,h,Q,hQ=>by cases h
 |q'+1,s,t,x,a,h,Q,hQ=>by
  obtain⟨Q,rfl⟩:∃j,Q=j+1:=⟨Q - 1,by omega⟩
  rw[aM];obtain⟨hz,h⟩:=ei h;have hI:=iF (m:=m) s [[38,38]] (by decide) hz (by grind);simp only[List.map_cons,List.map_nil]at hI;simp only[kZ,evC_known hI,aE,aW,cP];rcases nG [[38,38]] s.is with⟨e1,e2⟩|⟨j,o,e1,e2,e3,e4,e5⟩
  ·rcases h with⟨-,h⟩|⟨o',h1,-⟩
   ·obtain⟨rfl,rfl⟩:=au h;simp only[e1,zl,az]
   all_goals simp_all
  ·rcases h with⟨h1,-⟩|⟨o',h1,h⟩
   ·simp_all
   ·rw[e2]at h1;cases h1;obtain⟨_,s1,h1,h⟩:=aa h;obtain⟨-,rfl⟩:=cW h1;obtain⟨y,s2,h2,h⟩:=aa h;obtain⟨z,s3,h3,h⟩:=aa h;have hat:cp [.str [38,38]] (j:Int)=some (Da.str o):=by
     have:cp (List.map Da.str [[38,38]]) (j:Int)=some (Da.str o):=by rw[bg,la,e3];rfl
     grind
    have ha:=od (m:=m) h3 (by omega);have ha':Ω m 123 [.box 0 0,.p (.agg [(.int .i64 5),(.str o),(.int .i64 0),(.int .i64 0),(.str []),(.slice 1 []),(.slice 1 []),(.slice 1 [Da.int .i64 x,Da.int .i64 y])])] s2.A.hp=some (pI z,s3.A.hp):=ha;simp only[e1,evC_known (hx _ _ _ h2),aE,aW,cP,hat,bH,cV,evC_known ha'];exact uT hx hm k0 q' s3 t z a h Q (by omega)
def NZ {ex:PM Int}(hx:fF m 156 ex)(hm:100<=m)(hq:q<=m){s t:PS}(h:f7 ex [[38,38]] q s=some (a,t)):
  Ω (m+1) 146 [.box 0 0,.fn 1000156 [.box 0 0],pL 1 [.str [38,38]]] s.A.hp=some (pI a,t.A.hp):=by
 apply OV m s.A;unfold Aa;obtain⟨x,s1,h1,h⟩:=aa h;simp only[evC_known (hx _ _ _ h1),cP];exact uT hx hm _ q s1 t x a h m hq
def rY {m:Nat}{ex:PM Int}(hx:fF m 160 ex)(hm:100<=m)(k0:Int×bE->R):∀(q':Nat) (s t:PS) (x a:Int),gY ex [[43],[45]] q' x s=some (a,t)->∀Q,q'<=Q->
  itL (jN (cE lay0.tab m) m k0) Q ([.str [43],.str [45]],x,s.A)=k0 (a,t.A)
 |0,s,t,x,a,h,Q,hQ=>by cases h
 |q'+1,s,t,x,a,h,Q,hQ=>by
  obtain⟨Q,rfl⟩:∃j,Q=j+1:=⟨Q - 1,by omega⟩
  rw[aM];obtain⟨hz,h⟩:=ei h;have hI:=iF (m:=m) s [[43],[45]] (by decide) hz (by grind);simp at hI;simp only[jN,evC_known hI,aE,aW,cP];rcases nG [[43],[45]] s.is with⟨e1,e2⟩|⟨j,o,e1,e2,e3,e4,e5⟩
  ·rcases h with⟨-,h⟩|⟨o',h1,-⟩
   ·obtain⟨rfl,rfl⟩:=au h;simp only[e1,zl,az]
   all_goals simp_all
  ·rcases h with⟨h1,-⟩|⟨o',h1,h⟩
   ·simp_all
   ·rw[e2]at h1;cases h1;obtain⟨_,s1,h1,h⟩:=aa h;obtain⟨-,rfl⟩:=cW h1;obtain⟨y,s2,h2,h⟩:=aa h;obtain⟨z,s3,h3,h⟩:=aa h;have hat:cp [.str [43],.str [45]] (j:Int)=some (Da.str o):=by
     have:cp (List.map Da.str [[43],[45]]) (j:Int)=some (Da.str o):=by rw[bg,la,e3];rfl
     grind
    have ha:=od (m:=m) h3 (by omega);have ha':Ω m 123 [.box 0 0,.p (.agg [(.int .i64 5),(.str o),(.int .i64 0),(.int .i64 0),(.str []),(.slice 1 []),(.slice 1 []),(.slice 1 [Da.int .i64 x,Da.int .i64 y])])] s2.A.hp=some (pI z,s3.A.hp):=ha;simp only[e1,evC_known (hx _ _ _ h2),aE,aW,cP,hat,bH,cV,evC_known ha'];exact rY hx hm k0 q' s3 t z a h Q (by omega)
def IU {ex:PM Int}(hx:fF m 160 ex)(hm:100<=m)(hq:q<=m){s t:PS}(h:f7 ex [[43],[45]] q s=some (a,t)):
  Ω (m+1) 146 [.box 0 0,.fn 1000160 [.box 0 0],pL 1 [.str [43],.str [45]]] s.A.hp=some (pI a,t.A.hp):=by
 apply J0 m s.A;unfold xC;obtain⟨x,s1,h1,h⟩:=aa h;simp only[evC_known (hx _ _ _ h1),cP];exact rY hx hm _ q s1 t x a h m hq
def pA {m:Nat}{ex:PM Int}(hx:fF m 161 ex)(hm:100<=m)(k0:Int×bE->R):∀(q':Nat) (s t:PS) (x a:Int),gY ex [[42],[47],[37]] q' x s=some (a,t)->∀Q,q'<=Q->
  itL (gQ (cE lay0.tab m) m k0) Q ([.str [42],.str [47],.str [37]],x,s.A)=k0 (a,t.A)
 |0,s,t,x,a,h,Q,hQ=>by cases h
 |q'+1,s,t,x,a,h,Q,hQ=>by
  obtain⟨Q,rfl⟩:∃j,Q=j+1:=⟨Q - 1,by omega⟩
  rw[aM];obtain⟨hz,h⟩:=ei h;have hI:=iF (m:=m) s [[42],[47],[37]] (by decide) hz (by grind);simp at hI;simp only[gQ,evC_known hI,aE,aW,cP];rcases nG [[42],[47],[37]] s.is with⟨e1,e2⟩|⟨j,o,e1,e2,e3,e4,e5⟩
  ·rcases h with⟨-,h⟩|⟨o',h1,-⟩
   ·obtain⟨rfl,rfl⟩:=au h;simp only[e1,zl,az]
   all_goals simp_all
  ·rcases h with⟨h1,-⟩|⟨o',h1,h⟩
   ·simp_all
   ·rw[e2]at h1;cases h1;obtain⟨_,s1,h1,h⟩:=aa h;obtain⟨-,rfl⟩:=cW h1;obtain⟨y,s2,h2,h⟩:=aa h;obtain⟨z,s3,h3,h⟩:=aa h;have hat:cp [.str [42],.str [47],.str [37]] (j:Int)=some (Da.str o):=by
     have:cp (List.map Da.str [[42],[47],[37]]) (j:Int)=some (Da.str o):=by rw[bg,la,e3];rfl
     grind
    have ha:=od (m:=m) h3 (by omega);have ha':Ω m 123 [.box 0 0,.p (.agg [(.int .i64 5),(.str o),(.int .i64 0),(.int .i64 0),(.str []),(.slice 1 []),(.slice 1 []),(.slice 1 [Da.int .i64 x,Da.int .i64 y])])] s2.A.hp=some (pI z,s3.A.hp):=ha;simp only[e1,evC_known (hx _ _ _ h2),aE,aW,cP,hat,bH,cV,evC_known ha'];exact pA hx hm k0 q' s3 t z a h Q (by omega)
def C5 {ex:PM Int}(hx:fF m 161 ex)(hm:100<=m)(hq:q<=m){s t:PS}(h:f7 ex [[42],[47],[37]] q s=some (a,t)):
  Ω (m+1) 146 [.box 0 0,.fn 1000161 [.box 0 0],pL 1 [.str [42],.str [47],.str [37]]] s.A.hp=some (pI a,t.A.hp):=by
 apply Dl m s.A;unfold rP;obtain⟨x,s1,h1,h⟩:=aa h;simp only[evC_known (hx _ _ _ h1),cP];exact pA hx hm _ q s1 t x a h m hq
def ş {ex:PM Int}(hx:fF m 147 ex)(hm:100<=m)(hq:q<=m):fF (m+2) 135 (f7 ex [[124,124]] q):=by
 intro s t a h;apply Ű (m+1) s.A;unfold Rh;simp only[evC_known (IT hx hm hq h),aE,aW,cP]
def Ş {ex:PM Int}(hx:fF m 156 ex)(hm:100<=m)(hq:q<=m):fF (m+2) 147 (f7 ex [[38,38]] q):=by
 intro s t a h;apply ů (m+1) s.A;unfold agt;simp only[evC_known (NZ hx hm hq h),aE,aW,cP]
def abl {ex:PM Int}(hx:fF m 160 ex)(hm:100<=m)(hq:q<=m):fF (m+2) 159 (f7 ex [[43],[45]] q):=by
 intro s t a h;apply abz (m+1) s.A;unfold XN;simp only[evC_known (IU hx hm hq h),aE,aW,cP]
def Š {ex:PM Int}(hx:fF m 161 ex)(hm:100<=m)(hq:q<=m):fF (m+2) 160 (f7 ex [[42],[47],[37]] q):=by
 intro s t a h;apply ŵ (m+1) s.A;unfold Rm;simp only[evC_known (C5 hx hm hq h),aE,aW,cP]
def abk {sum:PM Int}(hx:fF m 159 sum)(hm:100<=m):fF (m+1) 156 (DB sum):=by
 intro s t a h;apply abw m s.A;unfold XK;obtain⟨x,s1,h1,h⟩:=aa h;obtain⟨hz,h⟩:=ei h;have hI:=iF (m:=m) s1 yO (by decide) hz (by simp only[yO,List.length_cons,List.length_nil];omega);simp only[yO,List.map_cons,List.map_nil]at hI;simp only[evC_known (hx _ _ _ h1),aE,aW,cP,evC_known hI];rcases nG yO s1.is with⟨e1,e2⟩|⟨j,o,e1,e2,e3,e4,e5⟩
 ·rcases h with⟨-,h⟩|⟨o',h1,-⟩
  ·obtain⟨rfl,rfl⟩:=au h;unfold yO at e1;simp only[e1,show aS 0 (-1)=false from rfl,aG]
  all_goals simp_all
 ·rcases h with⟨h1,-⟩|⟨o',h1,h⟩
  ·simp_all
  ·rw[e2]at h1;cases h1;obtain⟨_,s2,h1,h⟩:=aa h;obtain⟨-,rfl⟩:=cW h1;obtain⟨y,s3,h2,h3⟩:=aa h;have hat:cp (List.map Da.str yO) (j:Int)=some (Da.str o):=by rw[bg,la,e3];rfl
   simp only[yO,List.map_cons,List.map_nil]at hat;have ha:=od (m:=m) h3 (by omega);have ha':Ω m 123 [.box 0 0,.p (.agg [(.int .i64 5),(.str o),(.int .i64 0),(.int .i64 0),(.str []),(.slice 1 []),(.slice 1 []),(.slice 1 [Da.int .i64 x,Da.int .i64 y])])] s3.A.hp=some (pI a,t.A.hp):=ha;unfold yO at e1;simp only[e1,ji (show(0:Int)<=(j:Int) by omega),az,evC_known (hx _ _ _ h2),aE,aW,cP,hat,bH,cV,evC_known ha']
def Gu {s t:PS}{u:Unit}(h:pDec s=some (u,t)):{s with ne:=ae .i64 (s.ne - 1)}=t:=by
 unfold pDec at h;simp_all
variable {x:LN}
def vc {s t:PS}{u:Unit}(h:nL x s=some (u,t)):s.sz=true/\s.open x=t:=by
 obtain⟨h1,h2⟩:=bb h;simp_all
def wx {s t:PS}{u:Unit}(h:jI x s=some (u,t)):s.sz=true/\s.close x=t:=by
 obtain⟨h1,h2⟩:=bb h;simp_all
def Sg {s t:PS}{u:Unit}(h:gE x s=some (u,t)):s.sz=true/\s.exp x=t:=by
 obtain⟨h1,h2⟩:=bb h;simp_all
def Lj {s t:PS}{u:Unit}{e:Int}(h:B5 e s=some (u,t)):s.sz=true/\s.fail e=t:=by
 obtain⟨h1,h2⟩:=bb h;simp_all
def TK {fac:PM Int}(hf:fF m 161 fac)(hm:100<=m){o:LN}{s t:PS}(h:pUn o fac s=some (a,t)):
  (cE lay0.tab m 121 [(.box 0 0),(pS o)] s.A.hp fun d12 o13=>aI d12 fun r14=>ag r14<|aq o13 fun u15=>cE lay0.tab m 42 [(.box 0 0)] u15.hp fun d16 o17=>dP d16 fun x18=>af x18 fun b19=>aq o17 fun u20=>
   iL b19
    (cE lay0.tab m 161 [(.box 0 0)] u20.hp fun d21 o22=>dP d21 fun x23=>aP .i64 x23 fun i24=>aq o22 fun u25=>
    cE lay0.tab m 123 [(.box 0 0),(.p (.agg [(.int .i64 4),(.str o),(.int .i64 0),(.int .i64 0),(.str []),(.slice 1 []),(.slice 1 []),(.slice 1 [Da.int .i64 i24])]))] ({u25 with ne:=(ae .i64 (u25.ne - 1))}:bE).hp fun d26 o27=>dP d26 fun x28=>aP .i64 x28 fun i29=>aq o27 fun u30=>some ((pI i29),u30.hp))
    (cE lay0.tab m 123 [(.box 0 0),(.p (.agg [(.int .i64 4),(.str o),(.int .i64 0),(.int .i64 0),(.str []),(.slice 1 []),(.slice 1 []),(.slice 1 [Da.int .i64 0])]))] ({u20 with ne:=(ae .i64 (u20.ne - 1))}:bE).hp fun d31 o32=>dP d31 fun x33=>aP .i64 x33 fun i34=>aq o32 fun u35=>some ((pI i34),u35.hp)))=some ((pI a),t.A.hp):=by
 obtain⟨_,s1,h1,h⟩:=aa h;obtain⟨hz,rfl⟩:=vc h1;obtain⟨x,s2,h2,h⟩:=aa h;obtain⟨_,s3,h3,h⟩:=aa h;obtain rfl:=Gu h3;have ha:=od (m:=m) h (by omega);have ha':Ω m 123 [.box 0 0,.p (.agg [(.int .i64 4),(.str o),(.int .i64 0),(.int .i64 0),(.str []),(.slice 1 []),(.slice 1 []),(.slice 1 [Da.int .i64 x])])] ({s2.A with ne:=ae .i64 (s2.A.ne - 1)}:bE).hp=some (pI a,t.A.hp):=ha;simp only[evC_known (ze (m:=m) s o hz (by omega)),aL,ah,cP,evC_known (iH (m:=m) (s.open o) (by omega)),aE,aj];rcases bT h2 with⟨hk,h2⟩|⟨hk,h2⟩
 ·simp only[hk,az,evC_known (hf _ _ _ h2),aE,aW,cP,evC_known ha']
 ·obtain⟨rfl,rfl⟩:=au h2;simp only[hk,aG,evC_known ha',aE,aW,cP]
def T8 {fac pr:PM Int}(hf:fF m 161 fac)(hp:fF m 162 pr)(hm:100<=m):fF (m+1) 161 (y3 fac pr):=by
 intro s t a h;apply UF m s.A;unfold D0;obtain⟨q,rfl⟩:∃q,m=q+3:=⟨m - 3,by omega⟩
 obtain⟨hz,h⟩:=aD h;rw[aM];simp only[ki,show aO 0 2=true from rfl,show aS 0 0=true from rfl,az,show Int.toNat 0=0 from rfl,List.getElem?_cons_zero,bH,cV,evC_known (jl (m:=q+3) s _ hz (by omega)),aE,aj,cP];rcases h with⟨hc,h⟩|⟨hc,h⟩
 ·rw[hc,az];exact TK hf hm h
 ·obtain⟨-,h⟩:=aD h;rw[hc,aG,aM];simp only[ki,show ae .i64 (0+1)=1 from rfl,show aO 1 2=true from rfl,show aS 0 1=true from rfl,az,show Int.toNat 1=1 from rfl,List.getElem?_cons_zero,List.getElem?_cons_succ,bH,cV,evC_known (jl (m:=q+3) s _ hz (by omega)),aE,aj,cP];rcases h with⟨hc2,h⟩|⟨hc2,h⟩
  ·rw[hc2,az];exact TK hf hm h
  ·rw[hc2,aG,aM];simp only[ki,show ae .i64 (1+1)=2 from rfl,show aO 2 2=false from rfl,aG,evC_known (hp _ _ _ h),aE,aW,cP]
def PS.Pv (s:PS):AH:=⟨s.tk.map Tk.e,s.ps,s.en,s.aT,s.er,s.ne,s.tt,s.nd.map No.e⟩
def dPv (c:AH)(K:AH->R):R0 c.hp K=K c:=rfl
def dKJ (c:KbJ)(K:KbJ->R):KN c.hp K=K c:=rfl
def dKM (c:KbM)(K:KbM->R):KO c.hp K=K c:=rfl
def dPF (c:PsF)(K:PsF->R):aaH c.hp K=K c:=rfl
def dPO (c:CY)(K:CY->R):RZ c.hp K=K c:=rfl
def afa (c:mq)(K:mq->R):Gq c.hp K=K c:=rfl
def afb (c:mt)(K:mt->R):Gr c.hp K=K c:=rfl
def PS.KI (s:PS)(vk vn:Int)(vs:LN)(l:LD):Ŋ:=⟨vk,vn,vs,l.length,l,s.tk.map Tk.e,s.ps,s.en,s.aT,s.er,s.ne,s.tt,s.nd.map No.e⟩
def PS.KJ (s:PS)(vk vn:Int)(vs:LN)(l:LD):KbJ:=⟨vk,vn,vs,l.length,s.tk.map Tk.e,s.ps,s.en,s.aT,s.er,s.ne,s.tt,s.nd.map No.e,l⟩
def PS.KL (s:PS)(vk vn:Int)(vs:LN)(l:LD):ŋ:=⟨vk,vn,vs,l.length,l,s.tk.map Tk.e,s.ps,s.en,s.aT,s.er,s.ne,s.tt,s.nd.map No.e⟩
def PS.KM (s:PS)(vk vn:Int)(vs:LN)(l:LD):KbM:=⟨vk,vn,vs,l.length,s.tk.map Tk.e,s.ps,s.en,s.aT,s.er,s.ne,s.tt,s.nd.map No.e,l⟩
def PS.E (s:PS)(l:LD):PsE:=⟨l.length,l,s.tk.map Tk.e,s.ps,s.en,s.aT,s.er,s.ne,s.tt,s.nd.length,s.nd.map No.e⟩
def PS.F (s:PS)(l:LD):PsF:=⟨l.length,s.tk.map Tk.e,s.ps,s.en,s.aT,s.er,s.ne,s.tt,s.nd.length,l,s.nd.map No.e⟩
def PS.O (s:PS)(l:LD):CY:=⟨s.tk.map Tk.e,s.ps,s.en,s.aT,s.er,s.ne,s.tt,s.nd.length,l.length,s.nd.map No.e,l⟩
def PS.BI (s:PS)(vk vn:Int)(vs:LN)(l:LD):mq:=⟨s.tk.map Tk.e,s.ps,s.en,s.aT,s.er,s.ne,s.tt,s.nd.map No.e,vk,vn,vs,l.length,l⟩
def PS.BL (s:PS)(vk vn:Int)(vs:LN)(l:LD):mt:=⟨s.tk.map Tk.e,s.ps,s.en,s.aT,s.er,s.ne,s.tt,s.nd.map No.e,vk,vn,vs,l.length,l⟩
def cf {l l':List α}{s t:PS}(h:snoc p l s=some (l',t)):∃x,p s=some (x,t)/\l.length<1000000/\l++[x]=l':=by
 obtain⟨x,s1,h1,h⟩:=aa h;grind
def NU (s:PS)(hz:s.sz=true)(hm:65<=m):Ω m 116 [.box 0 0] s.Pv.hp=some (pB (O8 s),s.Pv.hp):=by
 replace hm:=aH hm;obtain⟨m,rfl,hm⟩:=hm;apply OM m s.Pv;unfold zW O8;have h1:Ω m 43 [.box 0 0,pS [45]] (cg.mk s.Pv.tk s.Pv.ps s.Pv.en s.Pv.aT s.Pv.er s.Pv.ne s.Pv.tt s.Pv.nd).hp=some (pB (s.is [45]),s.B.hp):=og (m:=m) s _ hz (by omega);have hp:=ly (m:=m) s 0 (by decide) hz (by omega);simp at hp;simp only[evC_known h1,jh,evC_known hp,show(s.peek 0).r.Kind=(s.peek 0).k from rfl];cases s.is [45]<;>rfl
def NW (s:PS)(hz:s.sz=true)(hm:65<=m):Ω m 119 [.box 0 0] s.Pv.hp=some (pB (Kn s),s.Pv.hp):=by
 replace hm:=aH hm;obtain⟨m,rfl,hm⟩:=hm;apply OO m s.Pv;unfold zY Kn;have hp:=ly (m:=m) s 0 (by decide) hz (by omega);have hp':Ω m 73 [.box 0 0,pI 0] (cg.mk s.Pv.tk s.Pv.ps s.Pv.en s.Pv.aT s.Pv.er s.Pv.ne s.Pv.tt s.Pv.nd).hp=some (.p (s.peek 0).e,s.B.hp):=hp;simp only[evC_known hp',show(s.peek 0).r.Kind=(s.peek 0).k from rfl];rfl
def NV {s t:PS}{l l':LI}(vk vn:Int)(vs:LN)(h:snoc pInt l s=some (l',t))(hm:67<=m):
  Ω m 117 [.box 0 0,.box 2 0] (s.KI vk vn vs (l.map iE)).hp=some (.tup [],(t.KJ vk vn vs (l'.map iE)).hp):=by
 replace hm:=aH hm;obtain⟨m,rfl,hm⟩:=hm;obtain⟨x,h1,hl,rfl⟩:=cf h;apply ON m (s.KI vk vn vs (l.map iE));unfold zX;have h2:Ω m 118 [.box 0 0] (cg.mk (s.KI vk vn vs (l.map iE)).tk (s.KI vk vn vs (l.map iE)).ps (s.KI vk vn vs (l.map iE)).en (s.KI vk vn vs (l.map iE)).aT (s.KI vk vn vs (l.map iE)).er (s.KI vk vn vs (l.map iE)).ne (s.KI vk vn vs (l.map iE)).tt (s.KI vk vn vs (l.map iE)).nd).hp=some (pI x,t.B.hp):=xw (m:=m) h1 (by omega);simp only[evC_known h2,aE,aW,jh];have e1:Nat.beq (s.KI vk vn vs (l.map iE)).vi (List.length (s.KI vk vn vs (l.map iE)).il)=true:=Nat.beq_refl _;rw[e1,az,ef (show List.length (s.KI vk vn vs (l.map iE)).il+List.length [Da.int .i64 x]<1000000001 by show(l.map iE).length+1<_;grind) (by decide),az];have e2:(s.KI vk vn vs (l.map iE)).il++[Da.int .i64 x]=(l++[x]).map iE:=by rw[List.map_append];rfl
 rw[e2];rfl
def NF {k:Int}{s t:PS}{x:Tk}(h:jk k s=some (x,t)):s.sz=true/\s.take k=(x,t):=bb h
def NX {s t:PS}{l l':List LN}(vk vn:Int)(vs:LN)(h:snoc ((jk 4).bnd fun t=> .ret t.s) l s=some (l',t))(hm:67<=m):
  Ω m 120 [.box 0 0,.box 2 0] (s.KL vk vn vs (l.map .str)).hp=some (.tup [],(t.KM vk vn vs (l'.map .str)).hp):=by
 replace hm:=aH hm;obtain⟨m,rfl,hm⟩:=hm;obtain⟨x,h1,hl,rfl⟩:=cf h;obtain⟨k,s1,h4,h3⟩:=aa h1;obtain⟨hz,h4⟩:=NF h4;obtain⟨rfl,rfl⟩:=au h3;apply OP m (s.KL vk vn vs (l.map .str));unfold zZ;have h2:Ω m 101 [.box 0 0,pI 4] (cg.mk (s.KL vk vn vs (l.map .str)).tk (s.KL vk vn vs (l.map .str)).ps (s.KL vk vn vs (l.map .str)).en (s.KL vk vn vs (l.map .str)).aT (s.KL vk vn vs (l.map .str)).er (s.KL vk vn vs (l.map .str)).ne (s.KL vk vn vs (l.map .str)).tt (s.KL vk vn vs (l.map .str)).nd).hp=some (.p (s.take 4).1.e,(s.take 4).2.B.hp):=tD (m:=m) s 4 (by decide) hz (by omega);rw[h4]at h2;simp only[evC_known h2,aE,W0,jh];have e1:Nat.beq (s.KL vk vn vs (l.map .str)).vl (List.length (s.KL vk vn vs (l.map .str)).il)=true:=Nat.beq_refl _;rw[e1,az,ef (show List.length (s.KL vk vn vs (l.map .str)).il+List.length [Da.str k.r.Text]<1000000001 by show(l.map Da.str).length+1<_;grind) (by decide),az];have e2:(s.KL vk vn vs (l.map .str)).il++[Da.str k.r.Text]=(l++[k.s]).map .str:=by rw[List.map_append];rfl
 rw[e2];rfl
variable {l':LI}
def C2 {ex:PM Int}(hx:fF m 135 ex){s t:PS}{l:LI}(h:snoc ex l s=some (l',t)):
  Ω (m+1) 154 [.box 0 0,.box 2 0] (s.E (l.map iE)).hp=some (.tup [],(t.F (l'.map iE)).hp):=by
 obtain⟨x,h1,hl,rfl⟩:=cf h;apply Dg m (s.E (l.map iE));unfold rM;have h2:Ω m 135 [.box 0 0] (bE.mk (s.E (l.map iE)).tk (s.E (l.map iE)).ps (s.E (l.map iE)).en (s.E (l.map iE)).aT (s.E (l.map iE)).er (s.E (l.map iE)).ne (s.E (l.map iE)).tt (s.E (l.map iE)).nd (s.E (l.map iE)).no).hp=some (pI x,t.A.hp):=hx _ _ _ h1;simp only[evC_known h2,aE,aW,cP];have e1:Nat.beq (s.E (l.map iE)).ou (List.length (s.E (l.map iE)).ol)=true:=Nat.beq_refl _;rw[e1,az,ef (show List.length (s.E (l.map iE)).ol+List.length [Da.int .i64 x]<1000000001 by show(l.map iE).length+1<_;grind) (by decide),az];have e2:(s.E (l.map iE)).ol++[Da.int .i64 x]=(l++[x]).map iE:=by rw[List.map_append];rfl
 rw[e2];rfl
variable {s1 s2:PS} {l1:LI}
def Z3 {ex:PM Int}(hx:∀k,m=k+1->fF k 135 ex)(hm:100<=m){l:LI}(h2:snoc ex l s1=some (l1,s2))(hz2:s2.sz=true)(n:Nat)(k0:(Int×Int×Bool×bE×Nat×LD)->R)(Y:fK->R):
  Q_yelementsO_1 (cE lay0.tab m) (l.map iE).length (l.map iE) s1.A k0 16 n Y=iL (!s2.is [44]) (k0 (16,(n:Int),!s2.is [44],(bif s2.is [44]then s2.up else s2).A,(l1.map iE).length,l1.map iE)) (Y (16,ae .i64 ((n:Int)+1),(bif s2.is [44]then s2.up else s2).A,(l1.map iE).length,l1.map iE)):=by
 unfold Q_yelementsO_1;obtain⟨k,rfl,-⟩:=aH (show 0+1<=m by omega);have hel:Ω (k+1) 154 [.box 0 0,.box 2 0] (PsE.mk (l.map iE).length (l.map iE) s1.A.tk s1.A.ps s1.A.en s1.A.aT s1.A.er s1.A.ne s1.A.tt s1.A.nd s1.A.no).hp=some (.tup [],(s2.F (l1.map iE)).hp):=C2 (hx k rfl) h2;generalize hm':k+1=m at*
 simp only[evC_known hel,dPF];have hac:Ω m 100 [.box 0 0,pS [44]] (bE.mk (s2.F (l1.map iE)).tk (s2.F (l1.map iE)).ps (s2.F (l1.map iE)).en (s2.F (l1.map iE)).aT (s2.F (l1.map iE)).er (s2.F (l1.map iE)).ne (s2.F (l1.map iE)).tt (s2.F (l1.map iE)).nd (s2.F (l1.map iE)).no).hp=some (pB (s2.is [44]),(bif s2.is [44]then s2.up else s2).A.hp):=dW (m:=m) s2 _ hz2 (by omega);simp only[evC_known hac,cP];rfl
def K4 {m:Nat}{ex:PM Int}(hx:∀k,m=k+1->fF k 135 ex)(hm:100<=m):∀(q':Nat) (s t:PS) (n:Nat) (l l':LI),sN PS.begins (snoc ex) 16 q' n l s=some (l',t)->n+q'<1000000->∀Q,q'<=Q->
  itL (fS (cE lay0.tab m) m (fun(i56,i57,b58,u59,n60,l61)=>some ((.tup []),({u59 with ou:=n60,ol:=l61}:CY).hp)) (fun(i62,i63,b64,u65,n66,l67)=>some ((.tup []),({u65 with ou:=n66,ol:=l67}:CY).hp))) Q (16,(n:Int),s.A,(l.map iE).length,l.map iE)=some (.tup [],(t.O (l'.map iE)).hp)
 |0,s,t,n,l,l',h,hn,Q,hQ=>by cases h
 |q'+1,s,t,n,l,l',h,hn,Q,hQ=>by
  obtain⟨Q,rfl⟩:∃j,Q=j+1:=⟨Q - 1,by omega⟩
  rw[aM];simp only[fS,evC_known (iH (m:=m) s (by omega)),aE,aj,cP];rcases bT h with⟨hk,h⟩|⟨hk,h⟩
  ·obtain⟨_,s1,h1,h⟩:=aa h;obtain⟨hz,h1⟩:=bb h1;injection h1 with _ h1;obtain⟨l1,s2,h2,h⟩:=aa h;obtain⟨hz2,h⟩:=aD h;have hb:=T7 (m:=m) s hz (by omega);have kX:∀(X:R),X=Q_yelementsO_1 (cE lay0.tab m) (l.map iE).length (l.map iE) s1.A (fun(i56,i57,b58,u59,n60,l61)=>some ((.tup []),({u59 with ou:=n60,ol:=l61}:CY).hp)) 16 n (itL (fS (cE lay0.tab m) m (fun(i56,i57,b58,u59,n60,l61)=>some ((.tup []),({u59 with ou:=n60,ol:=l61}:CY).hp)) (fun(i62,i63,b64,u65,n66,l67)=>some ((.tup []),({u65 with ou:=n66,ol:=l67}:CY).hp))) Q)->X=some (.tup [],(t.O (l'.map iE)).hp):=by
    intro X hX;rw[hX,Z3 hx hm h2 hz2];rcases h with⟨hc,h⟩|⟨hc,h⟩
    ·obtain⟨_,s3,h3,h⟩:=aa h;obtain⟨-,rfl⟩:=cW h3;rw[hc,Bool.not_true,aG,cond_true,wS (show n<bX by unfold bX;omega)];exact K4 hx hm q' s2.up t (n+1) l1 l' h (by omega) Q (by omega)
    ·obtain⟨rfl,rfl⟩:=au h;rw[hc];rfl
   apply kX;rw[hk,az];simp only[evC_known hb,cP];have f13:Ω m 44 [.box 0 0,pI 13] s.A.hp=some (.tup [],(s.fail 13).A.hp):=iG (m:=m) s 13 (by omega);have f5:Ω m 44 [.box 0 0,pI 5] s.A.hp=some (.tup [],(s.fail 5).A.hp):=iG (m:=m) s 5 (by omega);simp only[evC_known f13,evC_known f5,show eqI (n:Int) 16=Nat.beq n 16 from rfl];rw[<-h1];cases PS.begins s with
   |false=>rfl
   |true=>cases Nat.beq n 16<;>rfl
  ·obtain⟨rfl,rfl⟩:=au h;rw[hk];rfl
def Q_elI (cc:ab)(vk vn:Int)(vs:LN)(n12:Nat)(l13:LD)(u:cg)(k0:Int×Int×Bool×cg×Int×Int×LN×Nat×LD->R)(i6 i7:Int)(Y:eS->R):R:=
 cc 117 [(.box 0 0),(.box 2 0)] (Ŋ.mk vk vn vs n12 l13 u.tk u.ps u.en u.aT u.er u.ne u.tt u.nd).hp fun d28 o29=>aI d28 fun r30=>ag r30<|KN o29 fun u31=>
  cc 100 [(.box 0 0),(pS [44])] (cg.mk u31.tk u31.ps u31.en u31.aT u31.er u31.ne u31.tt u31.nd).hp fun d32 o33=>dP d32 fun x34=>af x34 fun b35=>aR o33 fun u36=>
  iL (!b35) (k0 (i6,i7,!b35,u36,u31.vk,u31.vn,u31.vs,u31.vi,u31.il)) (Y (i6,ae .i64 (i7+1),u36,u31.vk,u31.vn,u31.vs,u31.vi,u31.il))
def ZZ (hm:100<=m){l:LI}(h2:snoc pInt l s1=some (l1,s2))(hz2:s2.sz=true)(vk vn:Int)(vs:LN)(n:Nat)(k0:(Int×Int×Bool×cg×Int×Int×LN×Nat×LD)->R)(Y:eS->R):
  Q_elI (cE lay0.tab m) vk vn vs (l.map iE).length (l.map iE) s1.B k0 16 n Y=iL (!s2.is [44]) (k0 (16,(n:Int),!s2.is [44],(bif s2.is [44]then s2.up else s2).B,vk,vn,vs,(l1.map iE).length,l1.map iE)) (Y (16,ae .i64 ((n:Int)+1),(bif s2.is [44]then s2.up else s2).B,vk,vn,vs,(l1.map iE).length,l1.map iE)):=by
 unfold Q_elI;have hel:Ω m 117 [.box 0 0,.box 2 0] (Ŋ.mk vk vn vs (l.map iE).length (l.map iE) s1.B.tk s1.B.ps s1.B.en s1.B.aT s1.B.er s1.B.ne s1.B.tt s1.B.nd).hp=some (.tup [],(s2.KJ vk vn vs (l1.map iE)).hp):=NV vk vn vs h2 (by omega);simp only[evC_known hel,dKJ];have hac:Ω m 100 [.box 0 0,pS [44]] (cg.mk (s2.KJ vk vn vs (l1.map iE)).tk (s2.KJ vk vn vs (l1.map iE)).ps (s2.KJ vk vn vs (l1.map iE)).en (s2.KJ vk vn vs (l1.map iE)).aT (s2.KJ vk vn vs (l1.map iE)).er (s2.KJ vk vn vs (l1.map iE)).ne (s2.KJ vk vn vs (l1.map iE)).tt (s2.KJ vk vn vs (l1.map iE)).nd).hp=some (pB (s2.is [44]),(bif s2.is [44]then s2.up else s2).B.hp):=fH (m:=m) s2 _ hz2 (by omega);simp only[evC_known hac,jh];rfl
def K1 {m:Nat}(hm:100<=m)(vk vn:Int)(vs:LN):∀(q':Nat) (s t:PS) (n:Nat) (l l':LI),sN O8 (snoc pInt) 16 q' n l s=some (l',t)->n+q'<1000000->∀Q,q'<=Q->
  itL (eY (cE lay0.tab m) m (fun(i59,i60,b61,u62,i63,i64,s65,n66,l67)=>some ((.tup []),({u62 with vk:=i63,vn:=i64,vs:=s65,vi:=n66,il:=l67}:mq).hp)) (fun(i59,i60,b61,u62,i63,i64,s65,n66,l67)=>some ((.tup []),({u62 with vk:=i63,vn:=i64,vs:=s65,vi:=n66,il:=l67}:mq).hp))) Q (16,(n:Int),s.B,vk,vn,vs,(l.map iE).length,l.map iE)=some (.tup [],(t.BI vk vn vs (l'.map iE)).hp)
 |0,s,t,n,l,l',h,hn,Q,hQ=>by cases h
 |q'+1,s,t,n,l,l',h,hn,Q,hQ=>by
  obtain⟨Q,rfl⟩:∃j,Q=j+1:=⟨Q - 1,by omega⟩
  rw[aM];simp only[eY,evC_known (pU (m:=m) s (by omega)),aE,aj,jh];rcases bT h with⟨hk,h⟩|⟨hk,h⟩
  ·obtain⟨_,s1,h1,h⟩:=aa h;obtain⟨hz,h1⟩:=bb h1;injection h1 with _ h1;obtain⟨l1,s2,h2,h⟩:=aa h;obtain⟨hz2,h⟩:=aD h;have hb:=(show Ω m 116 [.box 0 0] (AH.mk s.B.tk s.B.ps s.B.en s.B.aT s.B.er s.B.ne s.B.tt s.B.nd).hp=some (pB (O8 s),s.Pv.hp)from NU (m:=m) s hz (by omega))
   have kX:∀(X:R),X=Q_elI (cE lay0.tab m) vk vn vs (l.map iE).length (l.map iE) s1.B (fun(i59,i60,b61,u62,i63,i64,s65,n66,l67)=>some ((.tup []),({u62 with vk:=i63,vn:=i64,vs:=s65,vi:=n66,il:=l67}:mq).hp)) 16 n (itL (eY (cE lay0.tab m) m (fun(i59,i60,b61,u62,i63,i64,s65,n66,l67)=>some ((.tup []),({u62 with vk:=i63,vn:=i64,vs:=s65,vi:=n66,il:=l67}:mq).hp)) (fun(i59,i60,b61,u62,i63,i64,s65,n66,l67)=>some ((.tup []),({u62 with vk:=i63,vn:=i64,vs:=s65,vi:=n66,il:=l67}:mq).hp))) Q)->X=some (.tup [],(t.BI vk vn vs (l'.map iE)).hp):=by
    intro X hX;rw[hX,ZZ hm h2 hz2];rcases h with⟨hc,h⟩|⟨hc,h⟩
    ·obtain⟨_,s3,h3,h⟩:=aa h;obtain⟨-,rfl⟩:=cW h3;rw[hc,Bool.not_true,aG,cond_true,wS (show n<bX by unfold bX;omega)];exact K1 hm vk vn vs q' s2.up t (n+1) l1 l' h (by omega) Q (by omega)
    ·obtain⟨rfl,rfl⟩:=au h;rw[hc];rfl
   apply kX;rw[hk,az];simp only[evC_known hb,dPv];have f13:Ω m 44 [.box 0 0,pI 13] (cg.mk s.Pv.tk s.Pv.ps s.Pv.en s.Pv.aT s.Pv.er s.Pv.ne s.Pv.tt s.Pv.nd).hp=some (.tup [],(s.fail 13).B.hp):=dQ (m:=m) s 13 (by omega);have f5:Ω m 44 [.box 0 0,pI 5] (cg.mk s.Pv.tk s.Pv.ps s.Pv.en s.Pv.aT s.Pv.er s.Pv.ne s.Pv.tt s.Pv.nd).hp=some (.tup [],(s.fail 5).B.hp):=dQ (m:=m) s 5 (by omega);simp only[evC_known f13,evC_known f5,show eqI (n:Int) 16=Nat.beq n 16 from rfl];rw[<-h1];cases O8 s with
   |false=>rfl
   |true=>cases Nat.beq n 16<;>rfl
  ·obtain⟨rfl,rfl⟩:=au h;rw[hk];rfl
def Q_elL (cc:ab)(vk vn:Int)(vs:LN)(n12:Nat)(l13:LD)(u:cg)(k0:Int×Int×Bool×cg×Int×Int×LN×Nat×LD->R)(i6 i7:Int)(Y:eT->R):R:=
 cc 120 [(.box 0 0),(.box 2 0)] (ŋ.mk vk vn vs n12 l13 u.tk u.ps u.en u.aT u.er u.ne u.tt u.nd).hp fun d28 o29=>aI d28 fun r30=>ag r30<|KO o29 fun u31=>
  cc 100 [(.box 0 0),(pS [44])] (cg.mk u31.tk u31.ps u31.en u31.aT u31.er u31.ne u31.tt u31.nd).hp fun d32 o33=>dP d32 fun x34=>af x34 fun b35=>aR o33 fun u36=>
  iL (!b35) (k0 (i6,i7,!b35,u36,u31.vk,u31.vn,u31.vs,u31.vl,u31.il)) (Y (i6,ae .i64 (i7+1),u36,u31.vk,u31.vn,u31.vs,u31.vl,u31.il))
def Z0 (hm:100<=m){l l1:List LN}(h2:snoc ((jk 4).bnd fun t=> .ret t.s) l s1=some (l1,s2))(hz2:s2.sz=true)(vk vn:Int)(vs:LN)(n:Nat)(k0:(Int×Int×Bool×cg×Int×Int×LN×Nat×LD)->R)(Y:eT->R):
  Q_elL (cE lay0.tab m) vk vn vs (l.map Da.str).length (l.map Da.str) s1.B k0 16 n Y=iL (!s2.is [44]) (k0 (16,(n:Int),!s2.is [44],(bif s2.is [44]then s2.up else s2).B,vk,vn,vs,(l1.map Da.str).length,l1.map Da.str)) (Y (16,ae .i64 ((n:Int)+1),(bif s2.is [44]then s2.up else s2).B,vk,vn,vs,(l1.map Da.str).length,l1.map Da.str)):=by
 unfold Q_elL;have hel:Ω m 120 [.box 0 0,.box 2 0] (ŋ.mk vk vn vs (l.map Da.str).length (l.map Da.str) s1.B.tk s1.B.ps s1.B.en s1.B.aT s1.B.er s1.B.ne s1.B.tt s1.B.nd).hp=some (.tup [],(s2.KM vk vn vs (l1.map Da.str)).hp):=NX vk vn vs h2 (by omega);simp only[evC_known hel,dKM];have hac:Ω m 100 [.box 0 0,pS [44]] (cg.mk (s2.KM vk vn vs (l1.map Da.str)).tk (s2.KM vk vn vs (l1.map Da.str)).ps (s2.KM vk vn vs (l1.map Da.str)).en (s2.KM vk vn vs (l1.map Da.str)).aT (s2.KM vk vn vs (l1.map Da.str)).er (s2.KM vk vn vs (l1.map Da.str)).ne (s2.KM vk vn vs (l1.map Da.str)).tt (s2.KM vk vn vs (l1.map Da.str)).nd).hp=some (pB (s2.is [44]),(bif s2.is [44]then s2.up else s2).B.hp):=fH (m:=m) s2 _ hz2 (by omega);simp only[evC_known hac,jh];rfl
def K2 {m:Nat}(hm:100<=m)(vk vn:Int)(vs:LN):∀(q':Nat) (s t:PS) (n:Nat) (l l':List LN),sN Kn (snoc ((jk 4).bnd fun t=> .ret t.s)) 16 q' n l s=some (l',t)->n+q'<1000000->∀Q,q'<=Q->
  itL (eZ (cE lay0.tab m) m (fun(i59,i60,b61,u62,i63,i64,s65,n66,l67)=>some ((.tup []),({u62 with vk:=i63,vn:=i64,vs:=s65,vl:=n66,il:=l67}:mt).hp)) (fun(i59,i60,b61,u62,i63,i64,s65,n66,l67)=>some ((.tup []),({u62 with vk:=i63,vn:=i64,vs:=s65,vl:=n66,il:=l67}:mt).hp))) Q (16,(n:Int),s.B,vk,vn,vs,(l.map Da.str).length,l.map Da.str)=some (.tup [],(t.BL vk vn vs (l'.map Da.str)).hp)
 |0,s,t,n,l,l',h,hn,Q,hQ=>by cases h
 |q'+1,s,t,n,l,l',h,hn,Q,hQ=>by
  obtain⟨Q,rfl⟩:∃j,Q=j+1:=⟨Q - 1,by omega⟩
  rw[aM];simp only[eZ,evC_known (pU (m:=m) s (by omega)),aE,aj,jh];rcases bT h with⟨hk,h⟩|⟨hk,h⟩
  ·obtain⟨_,s1,h1,h⟩:=aa h;obtain⟨hz,h1⟩:=bb h1;injection h1 with _ h1;obtain⟨l1,s2,h2,h⟩:=aa h;obtain⟨hz2,h⟩:=aD h;have hb:=(show Ω m 119 [.box 0 0] (AH.mk s.B.tk s.B.ps s.B.en s.B.aT s.B.er s.B.ne s.B.tt s.B.nd).hp=some (pB (Kn s),s.Pv.hp)from NW (m:=m) s hz (by omega))
   have kX:∀(X:R),X=Q_elL (cE lay0.tab m) vk vn vs (l.map Da.str).length (l.map Da.str) s1.B (fun(i59,i60,b61,u62,i63,i64,s65,n66,l67)=>some ((.tup []),({u62 with vk:=i63,vn:=i64,vs:=s65,vl:=n66,il:=l67}:mt).hp)) 16 n (itL (eZ (cE lay0.tab m) m (fun(i59,i60,b61,u62,i63,i64,s65,n66,l67)=>some ((.tup []),({u62 with vk:=i63,vn:=i64,vs:=s65,vl:=n66,il:=l67}:mt).hp)) (fun(i59,i60,b61,u62,i63,i64,s65,n66,l67)=>some ((.tup []),({u62 with vk:=i63,vn:=i64,vs:=s65,vl:=n66,il:=l67}:mt).hp))) Q)->X=some (.tup [],(t.BL vk vn vs (l'.map Da.str)).hp):=by
    intro X hX;rw[hX,Z0 hm h2 hz2];rcases h with⟨hc,h⟩|⟨hc,h⟩
    ·obtain⟨_,s3,h3,h⟩:=aa h;obtain⟨-,rfl⟩:=cW h3;rw[hc,Bool.not_true,aG,cond_true,wS (show n<bX by unfold bX;omega)];exact K2 hm vk vn vs q' s2.up t (n+1) l1 l' h (by omega) Q (by omega)
    ·obtain⟨rfl,rfl⟩:=au h;rw[hc];rfl
   apply kX;rw[hk,az];simp only[evC_known hb,dPv];have f13:Ω m 44 [.box 0 0,pI 13] (cg.mk s.Pv.tk s.Pv.ps s.Pv.en s.Pv.aT s.Pv.er s.Pv.ne s.Pv.tt s.Pv.nd).hp=some (.tup [],(s.fail 13).B.hp):=dQ (m:=m) s 13 (by omega);have f5:Ω m 44 [.box 0 0,pI 5] (cg.mk s.Pv.tk s.Pv.ps s.Pv.en s.Pv.aT s.Pv.er s.Pv.ne s.Pv.tt s.Pv.nd).hp=some (.tup [],(s.fail 5).B.hp):=dQ (m:=m) s 5 (by omega);simp only[evC_known f13,evC_known f5,show eqI (n:Int) 16=Nat.beq n 16 from rfl];rw[<-h1];cases Kn s with
   |false=>rfl
   |true=>cases Nat.beq n 16<;>rfl
  ·obtain⟨rfl,rfl⟩:=au h;rw[hk];rfl
def RunF (c g:Nat)(p:PM Int):Prop:=∀m,c<=m->fF m g p
def RunF.le {c d g:Nat}{p:PM Int}(h:RunF c g p)(hd:c<=d):RunF d g p:=fun m hm=>h m (by omega)
def iQ {c:PS->Bool}{q:PM α}{s:PS}{r:α×PS}(h:cnd c p q s=some r)(hc:c s=true):p s=some r:=by
 rcases(aD h).2 with⟨-,h⟩|⟨h1,-⟩;all_goals simp_all
def iP {c:PS->Bool}{q:PM α}{s:PS}{r:α×PS}(h:cnd c p q s=some r)(hc:c s=false):q s=some r:=by
 rcases(aD h).2 with⟨h1,-⟩|⟨-,h⟩;all_goals simp_all
def FK {c:Nat}{ex:PM Int}(hx:RunF c 135 ex)(hc:c+2<=m)(h1:110<=m)(hq:q+1<=m)(hq':q<1000000){s t:PS}{l:LI}(h:EC PS.begins (snoc ex) 16 q l s=some (l',t)):
  Ω m 104 [.box 0 0,pI 16,.fn 1000153 [.box 0 0],.fn 154 [.box 1 0,.box 2 0]] (s.O (l.map iE)).hp=some (.tup [],(t.O (l'.map iE)).hp):=by
 obtain⟨m,rfl,-⟩:=aH (show 0+1<=m by omega);apply F3 m (s.O (l.map iE)) 16;unfold tV;obtain⟨hz,h⟩:=aD h;have e1:Ω m 43 [.box 0 0,pS [41]] (bE.mk (s.O (l.map iE)).tk (s.O (l.map iE)).ps (s.O (l.map iE)).en (s.O (l.map iE)).aT (s.O (l.map iE)).er (s.O (l.map iE)).ne (s.O (l.map iE)).tt (s.O (l.map iE)).nd (s.O (l.map iE)).no).hp=some (pB (s.is [41]),s.A.hp):=jl (m:=m) s _ hz (by omega);simp only[evC_known e1,aE,aj,cP];rcases h with⟨hk,h⟩|⟨hk,h⟩
 ·obtain⟨rfl,rfl⟩:=au h;rw[hk];rfl
 ·rw[hk,aG];exact K4 (fun k hk=>hx k (by omega)) (by omega) q s t 0 l l' h (by omega) m (by omega)
def oe {c:Nat}{ex:PM Int}(hx:RunF c 135 ex)(hc:c+3<=m)(h1:120<=m)(hq:q+2<=m)(hq':q<1000000){s t:PS}{l:LI}(h:sa ex q s=some (l,t)):
  Ω m 145 [.box 0 0] s.A.hp=some (pL 1 (l.map iE),t.A.hp):=by
 obtain⟨m,rfl,-⟩:=aH (show 0+1<=m by omega);apply FY m s.A;unfold tP;obtain⟨_,s1,h2,h⟩:=aa h;obtain⟨hz,rfl⟩:=vc h2;obtain⟨l1,s2,h3,h⟩:=aa h;obtain⟨_,s3,h4,h⟩:=aa h;obtain⟨hz2,rfl⟩:=wx h4;obtain⟨rfl,rfl⟩:=au h;have e1:Ω m 104 [.box 0 0,pI 16,.fn 1000153 [.box 0 0],.fn 154 [.box 1 0,.box 2 0]] (CY.mk (s.open [40]).A.tk (s.open [40]).A.ps (s.open [40]).A.en (s.open [40]).A.aT (s.open [40]).A.er (s.open [40]).A.ne (s.open [40]).A.tt (s.open [40]).A.nd 0 (s.open [40]).A.no []).hp=some (.tup [],(s2.O (l1.map iE)).hp):=FK hx (by omega) (by omega) (by omega) hq' h3;have e2:Ω m 124 [.box 0 0,pS [41]] (bE.mk (s2.O (l1.map iE)).tk (s2.O (l1.map iE)).ps (s2.O (l1.map iE)).en (s2.O (l1.map iE)).aT (s2.O (l1.map iE)).er (s2.O (l1.map iE)).ne (s2.O (l1.map iE)).tt (s2.O (l1.map iE)).nd (s2.O (l1.map iE)).no).hp=some (.tup [],(s2.close [41]).A.hp):=zN (m:=m) s2 _ hz2 (by omega);simp only[evC_known (ze (m:=m) s _ hz (by omega)),aL,ah,cP,evC_known e1,dPO,evC_known e2];have e3:List.take (s2.O (l1.map iE)).ou (List.drop 0 (s2.O (l1.map iE)).ol)=l1.map iE:=by
  show List.take (l1.map iE).length (List.drop 0 (l1.map iE))=_;grind
 rw[e3]
def A0 {c:PM Va}{s t:PS}{v:Va}(h:jc c s=some (v,t)):s.sz=true/\(eqI (s.peek 0).k 4=true/\(⟨3,0,(s.peek 0).s,[],[]⟩,s.up)=(v,t)\/eqI (s.peek 0).k 4=false/\s.is [116,114,117,101]=true/\(⟨2,1,[],[],[]⟩,s.up)=(v,t)\/
  eqI (s.peek 0).k 4=false/\s.is [116,114,117,101]=false/\s.is [102,97,108,115,101]=true/\(⟨2,0,[],[],[]⟩,s.up)=(v,t)\/eqI (s.peek 0).k 4=false/\s.is [116,114,117,101]=false/\s.is [102,97,108,115,101]=false/\c s=some (v,t)):=by
 obtain⟨hz,h⟩:=aD h;refine⟨hz,?_⟩;rcases h with⟨h1,h⟩|⟨h1,h⟩
 ·exact .inl ⟨h1,(bb h).2⟩
 ·rcases(aD h).2 with⟨h2,h⟩|⟨h2,h⟩
  ·exact .inr (.inl ⟨h1,h2,(bb h).2⟩)
  ·rcases(aD h).2 with⟨h3,h⟩|⟨h3,h⟩
   ·exact .inr (.inr (.inl ⟨h1,h2,h3,(bb h).2⟩))
   all_goals simp_all
def ad4 {s:PS}(hz:s.sz=true){k:Int}(hk:k≠0)(h:eqI (s.peek 0).k k=true):ae .i64 ((s.ps:Int)+1)=((s.ps+1:Nat):Int):=by
 rw[bO,lδ]at h;exact WT hz (mQ hz 0 (by omega))
def upA {s:PS}(hz:s.sz=true){k:Int}(hk:k≠0)(h:eqI (s.peek 0).k k=true):({s.A with ps:=ae .i64 (s.A.ps+1)}:bE)=s.up.A:=by
 show(⟨_,ae .i64 ((s.ps:Int)+1),_,_,_,_,_,_,_⟩:bE)=_;rw[ad4 hz hk h];rfl
def upB {s:PS}(hz:s.sz=true){k:Int}(hk:k≠0)(h:eqI (s.peek 0).k k=true):({s.B with ps:=ae .i64 (s.B.ps+1)}:cg)=s.up.B:=by
 show(⟨_,ae .i64 ((s.ps:Int)+1),_,_,_,_,_,_⟩:cg)=_;rw[ad4 hz hk h];rfl
def FH {s t:PS}{v:Va}(h:jc (fun _=>none) s=some (v,t))(hm:70<=m):Ω m 103 [.box 0 0] s.A.hp=some (.p v.e,t.A.hp):=by
 replace hm:=aH hm;obtain⟨m,rfl,hm⟩:=hm;apply FZ m s.A;unfold tQ;obtain⟨hz,h⟩:=A0 h;have hp:=lx (m:=m) s 0 (by decide) hz (by omega);simp at hp;simp only[evC_known hp,aE,W0,cP,show(s.peek 0).r.Kind=(s.peek 0).k from rfl];rcases h with⟨h1,h⟩|⟨h1,h2,h⟩|⟨h1,h2,h3,h⟩|⟨-,-,-,h⟩
 ·injection h with h4 h5;subst h4 h5;rw[h1,az,upA hz (by decide) h1];rfl
 ·injection h with h4 h5;subst h4 h5;rw[h1,aG];simp only[evC_known (dW (m:=m) s _ hz (by omega)),aE,aj,cP];rw[h2,az];rfl
 ·injection h with h4 h5;subst h4 h5;rw[h1,aG];simp only[evC_known (dW (m:=m) s _ hz (by omega)),aE,aj,cP];rw[h2,aG,cond_false];simp only[evC_known (dW (m:=m) s _ hz (by omega)),aE,aj,cP];rw[h3,az];rfl
 ·cases h
def vg {s t:PS}{x:Tk}(h:pPeek s=some (x,t)):s.sz=true/\s.peek 0=x/\s=t:=by
 obtain⟨h1,h2⟩:=bb h;grind
def N3 {c:Nat}{ex:PM Int}(hx:RunF c 135 ex)(hc:c+4<=m)(hm1:130<=m)(hq:q+3<=m)(hq':q<1000000):fF m 162 (fD ex q):=by
 obtain⟨m,rfl,-⟩:=aH (show 0+1<=m by omega);intro s t a h;apply OZ m s.A;unfold Ah oD oE;have hz:=(aD h).1;have hp0:=lx (m:=m) s 0 (by decide) hz (by omega);have hp1:=lx (m:=m) s 1 (by decide) hz (by omega);simp at hp0;simp at hp1;have hq5:∀(d:D) (o:List Ob),ge d o=dP d fun x=>aP .i64 x fun i=>aq o fun u=>some (pI i,u.hp):=fun d o=>rfl
 have ha:=fun(x:No) (s:PS) (h:eb x s=some (a,t))=>od (m:=m) h (by omega)
 have his:=fun x=>jl (m:=m) s x hz (by omega)
 simp only[evC_known hp0,evC_known hp1,aE,W0,cP,show ∀x:Tk,x.r.Kind=x.k from fun _=>rfl,show ∀x:Tk,x.r.Text=x.s from fun _=>rfl,show ∀x:Tk,x.r.Num=x.n from fun _=>rfl];have app:∀(K:Bool->R),iL (eqI (s.peek 1).k 5) (K (bv (s.peek 1).s [40])) (K false)=K s.appl:=by
  intro K;unfold PS.appl;cases eqI (s.peek 1).k 5<;>rfl
 refine(app fun b=>iL (eqI (s.peek 0).k 1) (iL (!b) ?X ?Y) (iL false ?X ?Y)).trans ?_;cases hk1:eqI (s.peek 0).k 1 with
 |true=>
  cases hap:s.appl with
  |false=>
   have h:=iQ h (by simp_all);obtain⟨x,s1,h1,h⟩:=aa h;obtain⟨-,rfl,rfl⟩:=vg h1;obtain⟨_,s2,h2,h⟩:=aa h;obtain⟨-,rfl⟩:=cW h2;have ha':Ω m 123 [(.box 0 0),(.p (.agg [(.int .i64 2),(.str (s.peek 0).s),(.int .i64 0),(.int .i64 0),(.str []),(.slice 1 []),(.slice 1 []),(.slice 1 [])]))] s.up.A.hp=some (pI a,t.A.hp):=ha _ _ h;rw[upA hz (by decide) hk1];simp only[az,Bool.not_false,evC_known ha',hq5,aE,aW,cP]
  |true=>
   have h:=iP h (by simp_all);have h:=iQ h (by simp_all);obtain⟨x,s1,h1,h⟩:=aa h;obtain⟨-,rfl,rfl⟩:=vg h1;obtain⟨_,s2,h2,h⟩:=aa h;obtain⟨-,rfl⟩:=cW h2;obtain⟨l,s3,h3,h⟩:=aa h;have hr:=oe (m:=m) hx (by omega) (by omega) (by omega) hq' h3;have ha':Ω m 123 [(.box 0 0),(.p (.agg [(.int .i64 6),(.str (s.peek 0).s),(.int .i64 0),(.int .i64 0),(.str []),(.slice 1 []),(.slice 1 []),(.slice 1 (l.map iE))]))] s3.A.hp=some (pI a,t.A.hp):=ha _ _ h;simp only[az,Bool.not_true,aG];unfold gc;rw[upA hz (by decide) hk1];simp only[evC_known hr,aE,A3,cP,show ∀x:Tk,x.r.Text=x.s from fun _=>rfl,evC_known ha',hq5,aW]
 |false=>
  have h:=iP h (by simp_all);simp only[aG];have q4:(s.is [105,110,116,115]||s.is [115,116,114,105,110,103,115])=true->gc (cE lay0.tab m) s.A (s.peek 0).r=some (pI a,t.A.hp):=by
   intro hi;have h:=iQ h (by simp_all);obtain⟨x,s1,h1,h⟩:=aa h;obtain⟨-,rfl,rfl⟩:=vg h1;obtain⟨_,s2,h2,h⟩:=aa h;obtain⟨-,rfl⟩:=cW h2;obtain⟨l,s3,h3,h⟩:=aa h;have hr:=oe (m:=m) hx (by omega) (by omega) (by omega) hq' h3;have ha':Ω m 123 [(.box 0 0),(.p (.agg [(.int .i64 6),(.str (s.peek 0).s),(.int .i64 0),(.int .i64 0),(.str []),(.slice 1 []),(.slice 1 []),(.slice 1 (l.map iE))]))] s3.A.hp=some (pI a,t.A.hp):=ha _ _ h;have hup:({s.A with ps:=ae .i64 (s.A.ps+1)}:bE)=s.up.A:=by
    have hps:s.ps<s.tk.length:=by
     rw[mκ]at hi;rcases hi with hi|hi
     ·exact eG hz hi
     ·exact eG hz hi
    show(⟨_,ae .i64 ((s.ps:Int)+1),_,_,_,_,_,_,_⟩:bE)=_;rw[WT hz hps];rfl
   unfold gc;rw[hup];simp only[evC_known hr,aE,A3,cP,show ∀x:Tk,x.r.Text=x.s from fun _=>rfl,evC_known ha',hq5,aW]
  have q1:(s.is [105,110,116,115]||s.is [115,116,114,105,110,103,115])=false->iM (s.peek 0).r (cE lay0.tab m) s.A=some (pI a,t.A.hp):=by
   intro hi;have h:=iP h (by simp_all);unfold iM;simp only[show ∀x:Tk,x.r.Kind=x.k from fun _=>rfl,show ∀x:Tk,x.r.Num=x.n from fun _=>rfl];cases hk3:eqI (s.peek 0).k 3 with
   |true=>
    have h:=iQ h hk3;obtain⟨x,s1,h1,h⟩:=aa h;obtain⟨-,rfl,rfl⟩:=vg h1;obtain⟨_,s2,h2,h⟩:=aa h;obtain⟨-,rfl⟩:=cW h2;have ha':Ω m 123 [(.box 0 0),(.p (.agg [(.int .i64 1),(.str []),(.int .i64 1),(.int .i64 (s.peek 0).n),(.str []),(.slice 1 []),(.slice 1 []),(.slice 1 [])]))] s.up.A.hp=some (pI a,t.A.hp):=ha _ _ h;rw[upA hz (by decide) hk3];simp only[az,evC_known ha',hq5,aE,aW,cP]
   |false=>
    have h:=iP h hk3;simp only[aG];have q3:(eqI (s.peek 0).k 4||(s.is [116,114,117,101]||s.is [102,97,108,115,101]))=true->iO (cE lay0.tab m) s.A=some (pI a,t.A.hp):=by
     intro hj;have h:=iQ h hj;obtain⟨v,s1,h1,h⟩:=aa h;have hcst:=FH (m:=m) h1 (by omega);have ha':Ω m 123 [(.box 0 0),(.p (.agg [(.int .i64 1),(.str []),(.int .i64 v.r.Kind),(.int .i64 v.r.N),(.str v.r.S),(.slice 1 v.r.I),(.slice 1 v.r.L),(.slice 1 [])]))] s1.A.hp=some (pI a,t.A.hp):=ha _ _ h;unfold iO;simp only[evC_known hcst,aE,dVa,cP,evC_known ha',hq5,aW]
    have q2:(eqI (s.peek 0).k 4||(s.is [116,114,117,101]||s.is [102,97,108,115,101]))=false->iN (cE lay0.tab m) s.A=some (pI a,t.A.hp):=by
     intro hj;have h:=iP h hj;unfold iN;simp only[evC_known (dW (m:=m) s _ hz (by omega)),aE,aj,cP];cases hs:s.is [115,101,108,102]with
     |true=>
      have h:=iQ h hs;obtain⟨_,s2,h2,h⟩:=aa h;obtain⟨-,rfl⟩:=cW h2;have ha':Ω m 123 [(.box 0 0),(.p (.agg [(.int .i64 3),(.str []),(.int .i64 0),(.int .i64 0),(.str []),(.slice 1 []),(.slice 1 []),(.slice 1 [])]))] s.up.A.hp=some (pI a,t.A.hp):=ha _ _ h;simp only[az,cond_true,evC_known ha',hq5,aE,aW,cP]
     |false=>
      have h:=iP h hs;simp only[aG,cond_false,evC_known (his _),aE,aj,cP];cases ho:s.is [40]with
      |true=>
       have h:=iQ h ho;obtain⟨_,s1,h1,h⟩:=aa h;obtain⟨-,rfl⟩:=vc h1;obtain⟨x,s2,h2,h⟩:=aa h;obtain⟨_,s3,h3,h⟩:=aa h;obtain⟨hz3,rfl⟩:=wx h3;obtain⟨rfl,rfl⟩:=au h;have hcl:=zN (m:=m) s2 [41] hz3 (by omega);simp only[az,evC_known (ze (m:=m) s [40] hz (by omega)),aL,ah,cP,evC_known (iH (m:=m) (s.open [40]) (by omega)),aE,aj];rcases bT h2 with⟨hk,h2⟩|⟨hk,h2⟩
       ·have he:=hx m (by omega) _ _ _ h2;simp only[hk,az,evC_known he,aE,aW,cP,evC_known hcl,aL,ah]
       ·obtain⟨rfl,rfl⟩:=au h2;simp only[hk,aG,evC_known hcl,aL,ah,cP]
      |false=>
       have h:=iP h ho;obtain⟨_,s1,h1,h⟩:=aa h;obtain⟨-,rfl⟩:=Lj h1;obtain⟨rfl,rfl⟩:=au h;simp only[aG,evC_known (iG (m:=m) s 13 (by omega)),aL,ah,cP]
    cases hk4:eqI (s.peek 0).k 4 with
    |true=>
     simp only[az];simp_all
    |false=>
     simp only[aG,evC_known (his _),aE,aj,cP];cases ht:s.is [116,114,117,101]with
     |true=>
      simp only[az];simp_all
     |false=>
      cases hf:s.is [102,97,108,115,101]with
      |true=>exact q3 (by simp_all)
      |false=>exact q2 (by simp_all)
  simp only[evC_known (his _),aE,aj,cP];cases hi:s.is [105,110,116,115]with
  |true=>
   simp only[az];simp_all
  |false=>
   cases hs:s.is [115,116,114,105,110,103,115]with
   |true=>exact q4 (by simp_all)
   |false=>exact q1 (by simp_all)
def adU:Nat->Nat
 |0=>135
 |1=>147
 |2=>156
 |3=>159
 |4=>160
 |5=>161
 |_=>162
def Ç {q:Nat}(hq:q<1000000):∀f lvl,lvl<=6->RunF (q+200+6*f) (adU lvl) (fu q f lvl)
 |0,lvl,hl=>fun m hm s t a h=>by simp only[fu]at h;cases h
 |f+1,lvl,hl=>by
  intro m hm;obtain⟨k,rfl⟩:∃k,m=k+2:=⟨m - 2,by omega⟩
  have ih:=fun l h=>Ç hq f l h
  match lvl,hl with
  |0,_=>exact ş (ih 1 (by omega) k (by omega)) (by omega) (by omega)
  |1,_=>exact Ş (ih 2 (by omega) k (by omega)) (by omega) (by omega)
  |2,_=>exact abk (ih 3 (by omega) (k+1) (by omega)) (by omega)
  |3,_=>exact abl (ih 4 (by omega) k (by omega)) (by omega) (by omega)
  |4,_=>exact Š (ih 5 (by omega) k (by omega)) (by omega) (by omega)
  |5,_=>exact T8 (ih 5 (by omega) (k+1) (by omega)) (ih 6 (by omega) (k+1) (by omega)) (by omega)
  |6,_=>exact N3 (ih 0 (by omega)) (by omega) (by omega) (by omega) hq
def gU (b:Nat)(l:LI):Prop:=∀k∈l,0<=k/\k<(b:Int)
def nF (hs:LI){i:Nat}(h:i<hs.length):(hs.map iE)[i]?=some (iE (hs.getD i 0)):=by
 simp[lθ h,lω]
def V0 (x:No):x.r.Op=x.op:=rfl
def Ő (x:No):x.r.Kids=x.kids.map iE:=rfl
def adY {m:Nat}(k0:Nat×Nat×Int×Int×Nat×Int×Int×LD×Int×Int×Bool×LD×LD×aK->R)(a c:Nat)(N:Nat)(i5 i4 i6:Int)(b:LD)(x:No)(hs:LI)(hN:N=hs.length)(hk:gU N x.kids)(hl:x.kids.length<10000):∀(e q j:Nat) (mx:Int),j+e=x.kids.length->e<q->
  itL (kj (cE lay0.tab m) m k0) q (a,N,i5,mx,c,i4,i6,x.kids.map iE,(x.kids.length:Int),(j:Int),b,hs.map iE,x.r)=k0 (a,N,i5,hK x.op hs (x.kids.drop j) j mx,c,i4,i6,x.kids.map iE,(x.kids.length:Int),(x.kids.length:Int),false,b,hs.map iE,x.r)
 |0,q+1,j,mx,h,_=>by
  obtain rfl:j=x.kids.length:=by omega
  rw[aM];simp only[kj,dJ,aG,List.drop_length,hK]
 |e+1,q+1,j,mx,h,hq=>by
  have hj:j<x.kids.length:=by omega
  obtain⟨g1,g2⟩:=hk x.kids[j] (lπ _);have g3:x.kids[j].toNat<hs.length:=by omega
  rw[aM,lι hj];simp only[kj,fd (show((j:Int)<(x.kids.length:Int)) by omega),az,bg,cS,bI hj,bH,dI,ji g1,fd g2,Nat.zero_add,nF hs g3,V0,wS (show j<bX by unfold bX;omega),hK];cases eqI x.op 11<;>cases eqI x.op 12<;>cases eqI (j:Int) 0<;>exact adY k0 a c N i5 i4 i6 b x hs hN hk hl e q (j+1) _ (by omega) (by omega)
def adX {m:Nat}(k0:Nat×Nat×Nat×Int×Int×Bool×LD×LD->R)(ns:List No)(hm:10001<m)(hk:∀x∈ns,gU ns.length x.kids)(hkl:∀x∈ns,x.kids.length<10000)(hl:ns.length<10000):∀(e q i:Nat) (hs:LI),i+e=ns.length->e<q->hs.length=ns.length->
  itL (ii (cE lay0.tab m) m k0) q (ns.length,ns.length,ns.length,(ns.length:Int),(i:Int),ns.map No.e,hs.map iE)=k0 (ns.length,ns.length,ns.length,(ns.length:Int),(ns.length:Int),false,ns.map No.e,(hN (ns.drop i) i hs).map iE)
 |0,q+1,i,hs,h,_,hhs=>by
  obtain rfl:i=ns.length:=by omega
  rw[aM];simp only[ii,dJ,aG,List.drop_length,hN]
 |e+1,q+1,i,hs,h,hq,hhs=>by
  have hi:i<ns.length:=by omega
  have hx:ns[i]∈ns:=lπ _;rw[aM,lι hi];have hat:(ns.map No.e)[i]?=some (No.e ns[i]):=by simp[lθ hi]
  simp only[ii,fd (show((i:Int)<(ns.length:Int)) by omega),az,ji (show(0:Int)<=(i:Int) by omega),Nat.zero_add,Int.toNat_natCast,hat,bH,Vb,Ő,lζ];have g2:=fun k0'=>adY (m:=m) k0' ns.length ns.length ns.length i ns.length i (ns.map No.e) ns[i] hs hhs.symm (hk _ hx) (hkl _ hx) ns[i].kids.length m 0 0 (by omega) (by have:=hkl _ hx;omega)
  simp only[show((0:Nat):Int)=0 from rfl,List.drop_zero]at g2;rw[g2];simp only[hN];have kX:itL (ii (cE lay0.tab m) m k0) q (ns.length,ns.length,ns.length,(ns.length:Int),((i+1:Nat):Int),ns.map No.e,(hs.map iE).set i (iE (GU ns[i].op (hK ns[i].op hs ns[i].kids 0 0))))=k0 (ns.length,ns.length,ns.length,(ns.length:Int),(ns.length:Int),false,ns.map No.e,(hN (ns.drop (i+1)) (i+1) (hs.set i (GU ns[i].op (hK ns[i].op hs ns[i].kids 0 0)))).map iE):=by
   rw[<-List.map_set];exact adX k0 ns hm hk hkl hl e q (i+1) _ (by omega) (by omega) (by simp[hhs])
  rw[<-kX];unfold eD eE;simp only[V0,ji (show(0:Int)<=(i:Int) by omega),az,fd (show((i:Int)<(ns.length:Int)) by omega),Nat.zero_add,Int.toNat_natCast,nF hs (show i<hs.length by omega),bH,dI,wS (show i<bX by unfold bX;omega)];unfold GU;cases eqI ns[i].op 4<;>cases eqI ns[i].op 5<;>cases eqI ns[i].op 6<;>cases eqI ns[i].op 7<;>cases eqI ns[i].op 15<;>cases eqI ns[i].op 16<;>cases eqI ns[i].op 17<;>cases eqI ns[i].op 18<;>rfl
def PF:∀(l:List No) (i:Nat) (hs:LI),(hN l i hs).length=hs.length
 |[],_,_=>rfl
 |x::r,i,hs=>by simp only[hN];rw[PF];simp
def T9 (ns:List No)(h0:0<ns.length)(hk:∀x∈ns,gU ns.length x.kids)(hkl:∀x∈ns,x.kids.length<10000)(hl:ns.length<10000)(hm:10005<=m):Ω m 55 [.arr 0 0 ns.length 8] [.arr (ns.map No.e)]=some (pI (cN ns),[.arr (ns.map No.e)]):=by
 replace hm:=aH hm;obtain⟨m,rfl,hm⟩:=hm;apply UG m (ns.map No.e) ns.length;unfold D1 cN;have hw:ae .i64 ((ns.length:Int) - 1)=((ns.length - 1:Nat):Int):=by rw[cz (by omega) (by omega)];omega
 have hr:List.replicate ns.length (Da.int .i64 0)=(List.replicate ns.length (0:Int)).map iE:=by simp[iE]
 have g:=fun k0=>adX (m:=m) k0 ns (by omega) hk hkl hl ns.length m 0 (List.replicate ns.length 0) (by omega) (by omega) (by simp)
 simp only[show((0:Nat):Int)=0 from rfl,List.drop_zero]at g;simp only[lζ,Int.toNat_natCast,hr,g,cn,show(0:Int)<=(ns.length:Int) by omega,Int.le_refl,decide_true,Bool.true_and,show Nat.ble (ns.length*8) 281474976710656=true by rw[Nat.ble_eq];omega,show(ns.length:Int)<=9223372036854775807 by omega,az,bO,show ¬((ns.length:Int)=0) by omega,decide_false,aG,hw,show(0:Int)<=((ns.length - 1:Nat):Int) by omega,fd (show((ns.length - 1:Nat):Int)<(ns.length:Int) by omega),Nat.zero_add];rw[nF _ (by rw[PF];simp;omega)];rfl
def YJ {s t:PS}{op:Int}{l:LI}{i:Int}(h:eb ⟨op,nm,⟨0,0,tx,[],[]⟩,l⟩ s=some (i,t))(hm:2<=m):
  Ω m 123 [.box 0 0,.agg [pI op,pS nm,pI 0,pI 0,pS tx,pL 1 [],pL 1 [],.arr 1 0 (List.length (l.map iE)) 1]] (OE.mk s.A.tk s.A.ps s.A.en s.A.aT s.A.er s.A.ne s.A.tt s.A.nd (l.map iE) s.A.no).hp=some (pI i,(t.D (l.map iE)).hp):=by
 have:=ŝ (m:=m) h hm;rw[<-lζ (f:=iE)]at this;exact this
def Ma {s t:PS}(h:pName s=some (x,t)):s.sz=true/\(s.take 1).1.s=x/\(s.take 1).2=t:=by
 obtain⟨k,s1,h1,h⟩:=aa h;obtain⟨hz,h1⟩:=NF h1;obtain⟨rfl,rfl⟩:=au h;simp_all
def zc {s t:PS}(h:pName s=some (x,t))(hm:63<=m):Ω m 75 [.box 0 0] s.A.hp=some (pS x,t.A.hp):=by
 obtain⟨hz,rfl,rfl⟩:=Ma h;exact Xv s hz hm
def zd {s t:PS}(h:pName s=some (x,t))(hm:63<=m):Ω m 75 [.box 0 0] s.B.hp=some (pS x,t.B.hp):=by
 obtain⟨hz,rfl,rfl⟩:=Ma h;exact Xw s hz hm
def vX {s t:PS}{u:Unit}(h:gE x s=some (u,t))(hm:63<=m):Ω m 74 [.box 0 0,pS x] s.A.hp=some (.tup [],t.A.hp):=by
 obtain⟨hz,rfl⟩:=Sg h;exact sh s x hz hm
def gT {s t:PS}{u:Unit}(h:gE x s=some (u,t))(hm:63<=m):Ω m 74 [.box 0 0,pS x] s.B.hp=some (.tup [],t.B.hp):=by
 obtain⟨hz,rfl⟩:=Sg h;exact NY s x hz hm
def IM {s t:PS}{u:Unit}(h:nL x s=some (u,t))(hm:65<=m):Ω m 121 [.box 0 0,pS x] s.A.hp=some (.tup [],t.A.hp):=by
 obtain⟨hz,rfl⟩:=vc h;exact ze s x hz hm
def IL {s t:PS}{u:Unit}(h:jI x s=some (u,t))(hm:65<=m):Ω m 124 [.box 0 0,pS x] s.A.hp=some (.tup [],t.A.hp):=by
 obtain⟨hz,rfl⟩:=wx h;exact zN s x hz hm
def Bv {s t:PS}{k:Int}(h:pKind s=some (k,t)):s.sz=true/\dn kindL 1 s=(k,t):=bb h
def Ŕ {s t:PS}{k:Int}(h:pKind s=some (k,t))(hm:80<=m):Ω m 102 [.box 0 0] s.A.hp=some (pI k,t.A.hp):=by
 obtain⟨hz,h⟩:=Bv h;have:=Xt (m:=m) s hz hm;simp_all
def FC {s t:PS}{k:Int}(h:pKind s=some (k,t))(hm:80<=m):Ω m 102 [.box 0 0] s.B.hp=some (pI k,t.B.hp):=by
 obtain⟨hz,h⟩:=Bv h;have:=Xu (m:=m) s hz hm;simp_all
def Q4 {c:Nat}{ex:PM Int}(hx:RunF c 135 ex)(hc:c+4<=m)(hm1:130<=m)(hq:q+3<=m)(hq':q<1000000):fF m 133 (pD ex q):=by
 obtain⟨m,rfl,-⟩:=aH (show 0+1<=m by omega);intro s t a h;apply Ů m s.A;unfold Rf;obtain⟨_,s1,h1,h⟩:=aa h;obtain⟨n,s2,h2,h⟩:=aa h;obtain⟨_,s3,h3,h⟩:=aa h;obtain⟨key,s4,h4,h⟩:=aa h;obtain⟨_,s5,h5,h⟩:=aa h;obtain⟨_,s6,h6,h⟩:=aa h;obtain⟨nm,s7,h7,h⟩:=aa h;obtain⟨l,s8,h8,h⟩:=aa h;have hargs:=oe (m:=m) hx (by omega) (by omega) (by omega) hq' h8;simp only[evC_known (vX h1 (by omega:63<=m)),aL,ah,cP,evC_known (zc h2 (by omega:63<=m)),aE,fo,evC_known (IM h3 (by omega:65<=m)),evC_known (hx m (by omega) _ _ _ h4),evC_known (IL h5 (by omega:65<=m)),evC_known (vX h6 (by omega:63<=m)),evC_known (zc h7 (by omega:63<=m)),evC_known hargs,A3];have hl:=(q7 h).2.1;cases l with
 |nil=>
  have ha:=od (m:=m) h (by omega);have ha':Ω m 123 [(.box 0 0),(.p (.agg [(.int .i64 7),(.str n),(.int .i64 0),(.int .i64 0),(.str nm),(.slice 1 []),(.slice 1 []),(.slice 1 [Da.int .i64 key])]))] s8.A.hp=some (pI a,t.A.hp):=ha;simp only[List.map_nil,show(!List.isEmpty [Da.int .i64 key]&&List.isEmpty ([]:LD))=true from rfl,az,evC_known ha',aE,aW,cP]
 |cons k0 l=>
  have ha:=YJ (m:=m) h (by omega);have ha':Ω m 123 [(.box 0 0),(.agg [(pI 7),(pS n),(pI 0),(pI 0),(pS nm),(pL 1 []),(pL 1 []),(.arr 1 0 (List.length ([Da.int .i64 key]++(k0::l).map iE)) 1)])] (OE.mk s8.A.tk s8.A.ps s8.A.en s8.A.aT s8.A.er s8.A.ne s8.A.tt s8.A.nd ([Da.int .i64 key]++(k0::l).map iE) s8.A.no).hp=some (pI a,(t.D ((key::k0::l).map iE)).hp):=ha;have hb:cO (List.length [Da.int .i64 key]+List.length ((k0::l).map iE)) 8=true:=ef (by grind) (by decide);simp only[hb,evC_known ha',aW,dPD];rfl
def XA {c:Nat}{ex:PM Int}(hx:RunF c 135 ex)(hc:c+5<=m)(hm1:131<=m)(hq:q+4<=m)(hq':q<1000000):fF m 131 (kU ex q):=by
 obtain⟨m,rfl,-⟩:=aH (show 0+1<=m by omega);intro s t a h;apply Yt m s.A;unfold Ju;obtain⟨_,s1,h1,h⟩:=aa h;obtain⟨hz,h⟩:=aD h;simp only[evC_known (vX h1 (by omega:63<=m)),aL,ah,cP,evC_known (jl (m:=m) s1 _ hz (by omega)),aE,aj];rcases h with⟨hk,h⟩|⟨hk,h⟩
 ·simp only[hk,az,evC_known (Q4 (m:=m) hx (by omega) (by omega) (by omega) hq' _ _ _ h),aE,aW,cP]
 ·simp only[hk,aG,evC_known (hx m (by omega) _ _ _ h),aE,aW,cP]
def MO {ex:PM Int}(hx:fF m 135 ex){s t:PS}{l:LI}(h:snoc ex l s=some (l',t))(Y:gI->R)(i6 i7:Int):
  Q_yoperands_1 (cE lay0.tab m) s.A (l.map iE).length (l.map iE) Y i6 i7=Y ((l'.map iE).length,i6,ae .i64 (i7+1),t.A,l'.map iE):=by
 obtain⟨x,h1,hl,rfl⟩:=cf h;unfold Q_yoperands_1;simp only[evC_known (hx _ _ _ h1),aE,aW,cP,show ∀x:Nat,Nat.beq x x=true from fun x=>Nat.beq_refl x,az];rw[ef (by grind) (by decide),az];rw[List.map_append];rfl
def MN {m:Nat}{ex:PM Int}(hx:fF m 135 ex)(hm:100<=m)(k0:Nat×Int×Int×Bool×bE×LD->R):∀(k:Nat) (s t:PS) (l l':LI),jj ex k l s=some (l',t)->l.length+k<1000->∀Q,k<Q->
  itL (fg (cE lay0.tab m) m k0) Q ((l.map iE).length,((l.length+k:Nat):Int),(l.length:Int),s.A,l.map iE)=k0 ((l'.map iE).length,((l.length+k:Nat):Int),((l.length+k:Nat):Int),false,t.A,l'.map iE)
 |0,s,t,l,l',h,hn,Q,hQ=>by
  obtain⟨Q,rfl⟩:∃j,Q=j+1:=⟨Q - 1,by omega⟩
  obtain⟨rfl,rfl⟩:=au h;rw[aM];simp only[fg,Nat.add_zero,dJ,aG]
 |k+1,s,t,l,l',h,hn,Q,hQ=>by
  obtain⟨Q,rfl⟩:∃j,Q=j+1:=⟨Q - 1,by omega⟩
  rw[aM];unfold jj at h;simp only[fg,fd (show(l.length:Int)<((l.length+(k+1):Nat):Int) by omega),az];have next:∀(s1 s2:PS) (l1:LI),snoc ex l s1=some (l1,s2)->jj ex k l1 s2=some (l',t)->itL (fg (cE lay0.tab m) m k0) Q ((l1.map iE).length,((l.length+(k+1):Nat):Int),ae .i64 ((l.length:Int)+1),s2.A,l1.map iE)=k0 ((l'.map iE).length,((l.length+(k+1):Nat):Int),((l.length+(k+1):Nat):Int),false,t.A,l'.map iE):=by
   intro s1 s2 l1 h1 h2;obtain⟨x,-,-,rfl⟩:=cf h1;have:=MN hx hm k0 k s2 t (l++[x]) l' h2 (by grind) Q (by omega);rw[lα,List.length_singleton,show l.length+1+k=l.length+(k+1) by omega]at this;rw[wS (show l.length<bX by unfold bX;omega)];omega
  cases hl:l.isEmpty with
  |true=>
   rw[hl,cond_true]at h;obtain⟨l1,s1,h1,h⟩:=aa h;have:l.length=0:=by simp_all
   rw[tz (show ¬(0:Int)<(l.length:Int) by omega),aG,MO hx h1];grind
  |false=>
   rw[hl,cond_false]at h;obtain⟨_,s0,h0,h⟩:=aa h;obtain⟨l1,s1,h1,h⟩:=aa h;have:0<l.length:=by grind
   rw[fd (show(0:Int)<(l.length:Int) by omega),az];simp only[evC_known (vX h0 (by omega:63<=m)),aL,ah,cP];rw[MO hx h1];grind
def IV {c:Nat}{ex:PM Int}(hx:RunF c 135 ex)(hc:c+1<=m)(hm1:131<=m)(n:Nat)(hn:n<100){s t:PS}{l:LI}(h:tf ex n s=some (l,t)):
  Ω m 136 [.box 0 0,pI (n:Int)] s.A.hp=some (pL 1 (l.map iE),t.A.hp):=by
 obtain⟨m,rfl,-⟩:=aH (show 0+1<=m by omega);apply J2 m s.A n;unfold xE;obtain⟨_,s1,h1,h⟩:=aa h;obtain⟨l1,s2,h2,h⟩:=aa h;obtain⟨_,s3,h3,h⟩:=aa h;obtain⟨rfl,rfl⟩:=au h;simp only[evC_known (IM h1 (by omega:65<=m)),cP];have lp:=fun k0=>MN (hx m (by omega)) (by omega) k0 n s1 s2 [] l1 h2 (by grind) m (by omega)
 simp only[List.map_nil,List.length_nil,Nat.zero_add,show((0:Nat):Int)=0 from rfl]at lp;rw[lp];simp only[evC_known (IL h3 (by omega:65<=m)),aL,ah,cP,List.drop_zero,List.take_length]
def lw {x:No}{s t:PS}(h:gL x s=some (a,t))(hm:70<=m):Ω m 132 [.box 0 0,.p x.e] s.A.hp=some (pI a,t.A.hp):=by
 replace hm:=aH hm;obtain⟨m,rfl,hm⟩:=hm;apply Yd m s.A x.r;unfold Jd;obtain⟨_,s1,h1,h⟩:=aa h;have ha:Ω m 123 [.box 0 0,.p x.r.e] s1.A.hp=some (pI a,t.A.hp):=od h (by omega);simp only[evC_known (vX h1 (by omega:63<=m)),aL,ah,cP,evC_known ha,aE,aW]
def abp (c:Nat)(p:PM Int):Prop:=∀m,c<=m->∀(s t:PS) (a:Int),p s=some (a,t)->Ω m 107 [.box 0 0,pB false] s.A.hp=some (pI a,t.A.hp)
def zO {c d:Nat}{ex bl:PM Int}(hx:RunF c 135 ex)(hb:abp d bl)(hc:c+1<=m)(hd:d+1<=m)(hm1:131<=m)(op:Int){s t:PS}(h:pE op ex bl s=some (a,t)):
  Ω m 134 [.box 0 0,pI op] s.A.hp=some (pI a,t.A.hp):=by
 obtain⟨m,rfl,-⟩:=aH (show 0+1<=m by omega);apply AJ m s.A op;unfold pV;obtain⟨_,s1,h1,h⟩:=aa h;obtain⟨x,s2,h2,h⟩:=aa h;obtain⟨_,s3,h3,h⟩:=aa h;obtain⟨b,s4,h4,h⟩:=aa h;simp only[evC_known (IM h1 (by omega:65<=m)),aL,ah,cP,evC_known (hx m (by omega) _ _ _ h2),aE,aW,evC_known (IL h3 (by omega:65<=m)),evC_known (hb m (by omega) _ _ _ h4)];have q2:∀(a:Int) (t:PS) (l:LD),jm (pI a) (t.D l).hp=some (pI a,t.A.hp):=fun a t l=>rfl
 have q1:∀(s4:PS),eb ⟨op,[],vz,[x,b]⟩ s4=some (a,t)->gb (cE lay0.tab m) op x b s4.A=some (pI a,t.A.hp):=by
  intro s4 h;have ha:=YJ (m:=m) h (by omega);have ha':Ω m 123 [(.box 0 0),(.agg [(pI op),(pS []),(pI 0),(pI 0),(pS []),(pL 1 []),(pL 1 []),(.arr 1 0 (List.length ([Da.int .i64 x]++[Da.int .i64 b])) 1)])] (OE.mk s4.A.tk s4.A.ps s4.A.en s4.A.aT s4.A.er s4.A.ne s4.A.tt s4.A.nd ([Da.int .i64 x]++[Da.int .i64 b]) s4.A.no).hp=some (pI a,(t.D (([x,b]:LI).map iE)).hp):=ha;unfold gb;rw[evC_known ha',q2]
 cases ho:eqI op 11 with
 |false=>
  rw[aG];simp_all
 |true=>
  rw[ho,cond_true]at h;obtain⟨hz,h⟩:=aD h;rw[az];simp only[evC_known (dW (m:=m) s4 _ hz (by omega)),aE,aj,cP];rcases h with⟨hk,h⟩|⟨hk,h⟩
  ·obtain⟨_,s5,h5,h⟩:=aa h;obtain⟨-,rfl⟩:=cW h5;obtain⟨e,s6,h6,h⟩:=aa h;have ha:=YJ (m:=m) h (by omega);have ha':Ω m 123 [(.box 0 0),(.agg [(pI op),(pS []),(pI 0),(pI 0),(pS []),(pL 1 []),(pL 1 []),(.arr 1 0 (List.length ([Da.int .i64 x]++[Da.int .i64 b]++[Da.int .i64 e])) 1)])] (OE.mk s6.A.tk s6.A.ps s6.A.en s6.A.aT s6.A.er s6.A.ne s6.A.tt s6.A.nd ([Da.int .i64 x]++[Da.int .i64 b]++[Da.int .i64 e]) s6.A.no).hp=some (pI a,(t.D (([x,b,e]:LI).map iE)).hp):=ha;simp only[hk,az,cond_true,evC_known (hb m (by omega) _ _ _ h6),aE,aW,cP,evC_known ha',q2]
  ·rw[hk,aG];simp_all
def tC {c d:Nat}{ex bl:PM Int}(hx:RunF c 135 ex)(hb:abp d bl)(hc:c+6<=m)(hd:d+2<=m)(hm1:140<=m)(hq:q+5<=m)(hq':q<1000000):fF m 122 (f8 ex bl q):=by
 obtain⟨m,rfl,-⟩:=aH (show 0+1<=m by omega);intro s t a h;apply F4 m s.A;unfold tW;have hz:=(aD h).1;have hp:=lx (m:=m) s 0 (by decide) hz (by omega);simp at hp;have hac:=fun x=>dW (m:=m) s x hz (by omega)
 have hq1:∀(a:Int) (t:PS),bS (pI a) t.A.hp=some (pI a,t.A.hp):=fun a t=>rfl
 have hcn:=fun op (s:PS) (h:pE op ex bl s=some (a,t))=>zO (m:=m) hx hb (by omega) (by omega) (by omega) op h
 have hcall:=fun(s t:PS) (a:Int) (h:pD ex q s=some (a,t))=>Q4 (m:=m) hx (by omega) (by omega) (by omega) hq' s t a h
 have hval:=fun(s t:PS) (a:Int) (h:kU ex q s=some (a,t))=>XA (m:=m) hx (by omega) (by omega) (by omega) hq' s t a h
 simp only[evC_known (hac _),aE,aj,cP];cases c1:s.is [108,101,116]with
 |true=>
  have h:=iQ h c1;obtain⟨_,s1,h1,h⟩:=aa h;obtain⟨-,rfl⟩:=cW h1;obtain⟨n,s2,h2,h⟩:=aa h;obtain⟨_,s3,h3,h⟩:=aa h;obtain⟨k,s4,h4,h⟩:=aa h;obtain⟨x,s5,h5,h⟩:=aa h;have ha:Ω m 132 [(.box 0 0),(.p (.agg [(.int .i64 8),(.str n),(.int .i64 k),(.int .i64 0),(.str []),(.slice 1 []),(.slice 1 []),(.slice 1 [Da.int .i64 x])]))] s5.A.hp=some (pI a,t.A.hp):=lw h (by omega);simp only[az,cond_true,evC_known (zc h2 (by omega:63<=m)),aE,fo,cP,evC_known (vX h3 (by omega:63<=m)),aL,ah,evC_known (Ŕ h4 (by omega:80<=m)),aW,evC_known (hval _ _ _ h5),evC_known ha,hq1]
 |false=>
 have h:=iP h c1;simp only[aG,cond_false,evC_known hp,aE,W0,show(s.peek 0).r.Kind=(s.peek 0).k from rfl];cases c2:eqI (s.peek 0).k 1 with
 |true=>
  have h:=iQ h c2;obtain⟨n,s2,h2,h⟩:=aa h;obtain⟨x,s5,h5,h⟩:=aa h;have ha:Ω m 132 [(.box 0 0),(.p (.agg [(.int .i64 9),(.str n),(.int .i64 0),(.int .i64 0),(.str []),(.slice 1 []),(.slice 1 []),(.slice 1 [Da.int .i64 x])]))] s5.A.hp=some (pI a,t.A.hp):=lw h (by omega);simp only[az,evC_known (zc h2 (by omega:63<=m)),aE,fo,cP,aW,evC_known (hval _ _ _ h5),evC_known ha,hq1]
 |false=>
 have h:=iP h c2;simp only[aG,evC_known (jl (m:=m) s _ hz (by omega)),aE,aj,cP];cases c3:s.is [99,97,108,108]with
 |true=>
  have h:=iQ h c3;obtain⟨x,s5,h5,h⟩:=aa h;have ha:Ω m 132 [(.box 0 0),(.p (.agg [(.int .i64 10),(.str []),(.int .i64 0),(.int .i64 0),(.str []),(.slice 1 []),(.slice 1 []),(.slice 1 [Da.int .i64 x])]))] s5.A.hp=some (pI a,t.A.hp):=lw h (by omega);simp only[az,evC_known (hcall _ _ _ h5),aE,cP,aW,evC_known ha,hq1]
 |false=>
 have h:=iP h c3;simp only[aG,evC_known (hac _),aE,aj,cP];cases c4:s.is [105,102]with
 |true=>
  have h:=iQ h c4;obtain⟨_,s1,h1,h⟩:=aa h;obtain⟨-,rfl⟩:=cW h1;simp only[az,cond_true,evC_known (hcn 11 _ h),hq1]
 |false=>
 have h:=iP h c4;simp only[aG,cond_false,evC_known (hac _),aE,aj,cP];cases c5:s.is [119,104,105,108,101]with
 |true=>
  have h:=iQ h c5;obtain⟨_,s1,h1,h⟩:=aa h;obtain⟨-,rfl⟩:=cW h1;simp only[az,cond_true,evC_known (hcn 12 _ h),hq1]
 |false=>
 have h:=iP h c5;simp only[aG,cond_false,evC_known (hac _),aE,aj,cP];cases c6:s.is [114,101,116,117,114,110]with
 |true=>
  have h:=iQ h c6;obtain⟨_,s1,h1,h⟩:=aa h;obtain⟨-,rfl⟩:=cW h1;obtain⟨hz1,h⟩:=aD h;simp only[az,cond_true,evC_known (jl (m:=m) s.up _ hz1 (by omega)),aE,aj,cP];rcases h with⟨hk,h⟩|⟨hk,h⟩
  ·have ha:Ω m 132 [(.box 0 0),(.p (.agg [(.int .i64 13),(.str []),(.int .i64 0),(.int .i64 0),(.str []),(.slice 1 []),(.slice 1 []),(.slice 1 [])]))] s.up.A.hp=some (pI a,t.A.hp):=lw h (by omega);simp only[hk,Bool.not_true,aG,evC_known ha,hq1]
  ·obtain⟨x,s5,h5,h⟩:=aa h;have ha:Ω m 132 [(.box 0 0),(.p (.agg [(.int .i64 13),(.str []),(.int .i64 0),(.int .i64 0),(.str []),(.slice 1 []),(.slice 1 []),(.slice 1 [Da.int .i64 x])]))] s5.A.hp=some (pI a,t.A.hp):=lw h (by omega);simp only[hk,Bool.not_false,az,evC_known (hx m (by omega) _ _ _ h5),aE,aW,cP,evC_known ha,hq1]
 |false=>
 have h:=iP h c6;simp only[aG,cond_false,evC_known (hac _),aE,aj,cP];cases c7:s.is [102,97,105,108]with
 |true=>
  have h:=iQ h c7;obtain⟨_,s1,h1,h⟩:=aa h;obtain⟨-,rfl⟩:=cW h1;have ha:Ω m 132 [(.box 0 0),(.p (.agg [(.int .i64 14),(.str []),(.int .i64 0),(.int .i64 0),(.str []),(.slice 1 []),(.slice 1 []),(.slice 1 [])]))] s.up.A.hp=some (pI a,t.A.hp):=lw h (by omega);simp only[az,cond_true,evC_known ha,hq1]
 |false=>
 have h:=iP h c7;simp only[aG,cond_false,evC_known (hac _),aE,aj,cP];have hops:∀(n:Nat) (op:Int),n<100->∀s1:PS,((tf ex n).bnd fun l=>gL ⟨op,[],vz,l⟩) s1=some (a,t)->∃(l:LI) (s2:PS),Ω m 136 [.box 0 0,pI (n:Int)] s1.A.hp=some (pL 1 (l.map iE),s2.A.hp)/\Ω m 132 [(.box 0 0),(.p (.agg [(.int .i64 op),(.str []),(.int .i64 0),(.int .i64 0),(.str []),(.slice 1 []),(.slice 1 []),(.slice 1 (l.map iE))]))] s2.A.hp=some (pI a,t.A.hp):=by
  intro n op hn s1 h;obtain⟨l,s2,h2,h⟩:=aa h;exact⟨l,s2,IV hx (by omega) (by omega) n hn h2,lw h (by omega)⟩
 cases c8:s.is [101,109,105,116]with
 |true=>
  have h:=iQ h c8;obtain⟨_,s1,h1,h⟩:=aa h;obtain⟨-,rfl⟩:=cW h1;obtain⟨l,s2,ho,ha⟩:=hops 2 15 (by decide) _ h;simp at ho;simp only[az,cond_true,evC_known ho,aE,A3,cP,evC_known ha,hq1]
 |false=>
 have h:=iP h c8;simp only[aG,cond_false,evC_known (hac _),aE,aj,cP];cases c9:s.is [114,101,109,105,110,100]with
 |true=>
  have h:=iQ h c9;obtain⟨_,s1,h1,h⟩:=aa h;obtain⟨-,rfl⟩:=cW h1;obtain⟨l,s2,ho,ha⟩:=hops 3 16 (by decide) _ h;simp at ho;simp only[az,cond_true,evC_known ho,aE,A3,cP,evC_known ha,hq1]
 |false=>
 have h:=iP h c9;simp only[aG,cond_false,evC_known (hac _),aE,aj,cP];cases c10:s.is [99,97,110,99,101,108]with
 |true=>
  have h:=iQ h c10;obtain⟨_,s1,h1,h⟩:=aa h;obtain⟨-,rfl⟩:=cW h1;obtain⟨l,s2,ho,ha⟩:=hops 1 17 (by decide) _ h;simp at ho;simp only[az,cond_true,evC_known ho,aE,A3,cP,evC_known ha,hq1]
 |false=>
 have h:=iP h c10;obtain⟨_,s1,h1,h⟩:=aa h;obtain⟨-,rfl⟩:=Lj h1;obtain⟨rfl,rfl⟩:=au h;simp only[aG,cond_false,evC_known (iG (m:=m) s 13 (by omega)),aL,ah,cP]
def AT {m:Nat}{st:PM Int}(hs:fF m 122 st)(hm:100<=m)(b:Bool):∀(q':Nat) (s t:PS) (l l':LI),lK st q' l s=some (l',t)->∀Q,q'<=Q->
  ∃b1:Bool,∀k0:Bool×Bool×bE×LN×LN×Nat×LD->R,itL (jr (cE lay0.tab m) m k0) Q (b,s.A,[],[],(l.map iE).length,l.map iE)=k0 (b,b1,t.A,[],[],(l'.map iE).length,l'.map iE)
 |0,s,t,l,l',h,Q,hQ=>by cases h
 |q'+1,s,t,l,l',h,Q,hQ=>by
  obtain⟨Q,rfl⟩:∃j,Q=j+1:=⟨Q - 1,by omega⟩
  rcases bT h with⟨hk,h⟩|⟨hk,h⟩
  ·obtain⟨hz,h⟩:=aD h;rcases h with⟨hc,h⟩|⟨hc,h⟩
   ·obtain⟨rfl,rfl⟩:=au h;refine⟨false,fun k0=>?_⟩
    rw[aM];simp only[jr,evC_known (iH (m:=m) s (by omega)),aE,aj,cP,hk,az,evC_known (jl (m:=m) s _ hz (by omega)),hc,Bool.not_true,aG]
   ·obtain⟨l1,s1,h1,h⟩:=aa h;obtain⟨x,h2,hl,rfl⟩:=cf h1;obtain⟨b1,ih⟩:=AT hs hm b q' s1 t (l++[x]) l' h Q (by omega);refine⟨b1,fun k0=>?_⟩
    rw[aM];replace ih:=ih k0;rw[List.map_append]at ih;simp only[jr,evC_known (iH (m:=m) s (by omega)),aE,cP,hk,evC_known (jl (m:=m) s _ hz (by omega)),hc,evC_known (hs _ _ _ h2),aW,show ∀x:Nat,Nat.beq x x=true from fun x=>Nat.beq_refl x];rw[ef (by grind) (by decide),az];exact ih
  ·obtain⟨rfl,rfl⟩:=au h;refine⟨false,fun k0=>?_⟩
   rw[aM];simp only[jr,evC_known (iH (m:=m) s (by omega)),aE,aj,cP,hk,aG]
def xJ {m:Nat}{st:PM Int}(hs:fF m 122 st)(hm:100<=m)(b:Bool):∀(q':Nat) (s t:PS) (l l':LI),lK st q' l s=some (l',t)->∀Q,q'<=Q->
  ∃b1:Bool,∀k0:Bool×Bool×bE×LN×LN×Nat×LD->R,itL (ig (cE lay0.tab m) m k0) Q (b,s.A,[],[],(l.map iE).length,l.map iE)=k0 (b,b1,t.A,[],[],(l'.map iE).length,l'.map iE)
 |0,s,t,l,l',h,Q,hQ=>by cases h
 |q'+1,s,t,l,l',h,Q,hQ=>by
  obtain⟨Q,rfl⟩:∃j,Q=j+1:=⟨Q - 1,by omega⟩
  rcases bT h with⟨hk,h⟩|⟨hk,h⟩
  ·obtain⟨hz,h⟩:=aD h;rcases h with⟨hc,h⟩|⟨hc,h⟩
   ·obtain⟨rfl,rfl⟩:=au h;refine⟨false,fun k0=>?_⟩
    rw[aM];simp only[ig,evC_known (iH (m:=m) s (by omega)),aE,aj,cP,hk,az,evC_known (jl (m:=m) s _ hz (by omega)),hc,Bool.not_true,aG]
   ·obtain⟨l1,s1,h1,h⟩:=aa h;obtain⟨x,h2,hl,rfl⟩:=cf h1;obtain⟨b1,ih⟩:=xJ hs hm b q' s1 t (l++[x]) l' h Q (by omega);refine⟨b1,fun k0=>?_⟩
    rw[aM];replace ih:=ih k0;rw[List.map_append]at ih;simp only[ig,evC_known (iH (m:=m) s (by omega)),aE,cP,hk,evC_known (jl (m:=m) s _ hz (by omega)),hc,evC_known (hs _ _ _ h2),aW,show ∀x:Nat,Nat.beq x x=true from fun x=>Nat.beq_refl x];rw[ef (by grind) (by decide),az];exact ih
  ·obtain⟨rfl,rfl⟩:=au h;refine⟨false,fun k0=>?_⟩
   rw[aM];simp only[ig,evC_known (iH (m:=m) s (by omega)),aE,aj,cP,hk,aG]
def Xr {c:Nat}{st:PM Int}(hs:∀k,c<=k->fF k 122 st)(hc:c+1<=m)(hm1:110<=m)(hq:q+1<=m){s t:PS}(h:gD (.ret ()) st q s=some (a,t)):
  Ω m 107 [.box 0 0,pB false] s.A.hp=some (pI a,t.A.hp):=by
 obtain⟨m,rfl,-⟩:=aH (show 0+1<=m by omega);apply Yb m s.A false;unfold Jb;obtain⟨_,s1,h1,h⟩:=aa h;obtain⟨l,s2,h2,h⟩:=aa h;simp only[evC_known (IM h1 (by omega:65<=m)),aL,ah,cP];obtain⟨b1,lp⟩:=AT (hs m (by omega)) (by omega) false q s1 s2 [] l h2 m (by omega);simp only[List.map_nil,List.length_nil]at lp;rw[lp];simp only[evC_known (iH (m:=m) s2 (by omega)),aE,aj,cP];rcases bT h with⟨hk,h⟩|⟨hk,h⟩
 ·obtain⟨x,s3,h3,h⟩:=aa h;obtain⟨_,s4,h4,h⟩:=aa h;obtain⟨-,rfl⟩:=au h4;obtain⟨_,s5,h5,h⟩:=aa h;obtain⟨rfl,rfl⟩:=au h;have ha:=YJ (m:=m) h3 (by omega);have hcl:Ω m 124 [.box 0 0,pS [125]] (bE.mk (s3.D (l.map iE)).tk (s3.D (l.map iE)).ps (s3.D (l.map iE)).en (s3.D (l.map iE)).aT (s3.D (l.map iE)).er (s3.D (l.map iE)).ne (s3.D (l.map iE)).tt (s3.D (l.map iE)).nd (s3.D (l.map iE)).no).hp=some (.tup [],s5.A.hp):=IL h5 (by omega);simp only[hk,evC_known ha,dPD,evC_known hcl];rfl
 ·obtain⟨rfl,rfl⟩:=au h;simp only[hk,Bool.not_false,az]
def SM {s t:PS}{u:Unit}(h:td s=some (u,t)):s.nd.length<10000/\0<s.nd.length/\(∀x∈s.nd,gU s.nd.length x.kids)/\(∀x∈s.nd,x.kids.length<10000)/\(bif aO 1500 (ae .i64 (s.tt+(s.nd.length:Int)))then s.fail 5 else bif aO 24 (cN s.nd)then s.fail 5 else s)=t:=by
 unfold td at h;cases hb:(decide (s.nd.length<10000)&&decide (0<s.nd.length)&&s.nd.all (wM s.nd.length))with
 |false=>simp_all
 |true=>
  rw[hb]at h;simp only[lγ,lδ,lσ,wM,cn,cZ]at hb;injection h with h;injection h with _ h;exact⟨hb.1.1,hb.1.2,fun x hx=>(hb.2 x hx).2,fun x hx=>(hb.2 x hx).1,h⟩
def E_yblockN {c:Nat}{st:PM Int}(hs:∀k,c<=k->fF k 122 st)(hc:c+1<=m)(hm1:10010<=m)(hq:q+1<=m){s t:PS}(h:gD td st q {s with nd:=[],ne:=0}=some (a,t)):
  Ω m 107 [.box 0 0,pB true] (NO.mk s.B.tk s.B.ps s.B.en s.B.aT s.B.er 0 s.B.tt).hp=some (pI a,t.A.hp):=by
 obtain⟨m,rfl,-⟩:=aH (show 0+1<=m by omega);apply UE m (NO.mk s.B.tk s.B.ps s.B.en s.B.aT s.B.er 0 s.B.tt) true;unfold DZ;obtain⟨_,s1,h1,h⟩:=aa h;obtain⟨l,s2,h2,h⟩:=aa h;have ho:Ω m 121 [.box 0 0,pS [123]] (bE.mk (NO.mk s.B.tk s.B.ps s.B.en s.B.aT s.B.er 0 s.B.tt).tk (NO.mk s.B.tk s.B.ps s.B.en s.B.aT s.B.er 0 s.B.tt).ps (NO.mk s.B.tk s.B.ps s.B.en s.B.aT s.B.er 0 s.B.tt).en (NO.mk s.B.tk s.B.ps s.B.en s.B.aT s.B.er 0 s.B.tt).aT (NO.mk s.B.tk s.B.ps s.B.en s.B.aT s.B.er 0 s.B.tt).er (NO.mk s.B.tk s.B.ps s.B.en s.B.aT s.B.er 0 s.B.tt).ne (NO.mk s.B.tk s.B.ps s.B.en s.B.aT s.B.er 0 s.B.tt).tt 0 []).hp=some (.tup [],s1.A.hp):=IM h1 (by omega);simp only[evC_known ho,aL,ah,cP];obtain⟨b1,lp⟩:=xJ (hs m (by omega)) (by omega) true q s1 s2 [] l h2 m (by omega);simp only[List.map_nil,List.length_nil]at lp;rw[lp];simp only[evC_known (iH (m:=m) s2 (by omega)),aE,aj,cP];rcases bT h with⟨hk,h⟩|⟨hk,h⟩
 ·obtain⟨x,s3,h3,h⟩:=aa h;obtain⟨_,s4,h4,h⟩:=aa h;obtain⟨g1,g2,g3,g4,g5⟩:=SM h4;obtain⟨_,s5,h5,h⟩:=aa h;obtain⟨rfl,rfl⟩:=au h;have ha:=YJ (m:=m) h3 (by omega);have hf:=iG (m:=m) s3 5 (by omega);have hf':Ω m 44 [.box 0 0,pI 5] (bE.mk (s3.D (l.map iE)).tk (s3.D (l.map iE)).ps (s3.D (l.map iE)).en (s3.D (l.map iE)).aT (s3.D (l.map iE)).er (s3.D (l.map iE)).ne (s3.D (l.map iE)).tt (s3.D (l.map iE)).nd (s3.D (l.map iE)).no).hp=some (.tup [],(s3.fail 5).A.hp):=hf;have hf2:Ω m 44 [.box 0 0,pI 5] (bE.mk (s3.D (l.map iE)).tk (s3.D (l.map iE)).ps (s3.D (l.map iE)).en (s3.D (l.map iE)).aT (s3.D (l.map iE)).er (s3.D (l.map iE)).ne (s3.D (l.map iE)).tt (s3.D (l.map iE)).nd (s3.nd.map No.e)).hp=some (.tup [],(s3.fail 5).A.hp):=hf;have hh:Ω m 55 [.arr 0 0 (s3.D (l.map iE)).nd 8] [.arr (s3.D (l.map iE)).no]=some (pI (cN s3.nd),[.arr (s3.nd.map No.e)]):=T9 (m:=m) s3.nd g2 g3 g4 g1 (by omega);have hcl:Ω m 124 [.box 0 0,pS [125]] s4.A.hp=some (.tup [],s5.A.hp):=IL h5 (by omega);have q1:∀(a:Int) (t:PS),jY (.tup []) t.A.hp a=some (pI a,t.A.hp):=fun a t=>rfl
  have ht:aO 1500 (ae .i64 ((s3.D (l.map iE)).tt+ ↑(s3.D (l.map iE)).nd))=aO 1500 (ae .i64 (s3.tt+(s3.nd.length:Int))):=rfl;simp only[hk,Bool.not_true,aG,evC_known ha,aE,aW,dPD,az,ht];cases c1:aO 1500 (ae .i64 (s3.tt+(s3.nd.length:Int)))with
  |true=>
   rw[c1,cond_true]at g5;rw[<-g5]at hcl;simp only[az,evC_known hf',aL,ah,cP,evC_known hcl,q1]
  |false=>
   rw[c1,cond_false]at g5;simp only[aG,evC_known hh,aE,aW,iR,V1,ah];cases c2:aO 24 (cN s3.nd)with
   |true=>
    rw[c2,cond_true]at g5;rw[<-g5]at hcl;simp only[az,evC_known hf2,aL,ah,cP,evC_known hcl,q1]
   |false=>
    rw[c2,cond_false]at g5;subst g5;have hcl2:Ω m 124 [.box 0 0,pS [125]] (bE.mk (s3.D (l.map iE)).tk (s3.D (l.map iE)).ps (s3.D (l.map iE)).en (s3.D (l.map iE)).aT (s3.D (l.map iE)).er (s3.D (l.map iE)).ne (s3.D (l.map iE)).tt (s3.D (l.map iE)).nd (s3.nd.map No.e)).hp=some (.tup [],s5.A.hp):=hcl;simp only[aG,evC_known hcl2,q1]
 ·obtain⟨rfl,rfl⟩:=au h;simp only[hk,Bool.not_false,az]
def aaA {q:Nat}(hq:q<1000000)(f0:Nat):∀f,f<=f0->abp (q+300+12*f0+5*f) (Ek q f)
 |0,_=>fun m hm s t a h=>by simp only[Ek]at h;cases h
 |f+1,hf=>fun m hm s t a h=>by
  have ih:=aaA hq f0 f (by omega);simp only[Ek]at h;exact Xr (c:=q+300+12*f0+5*f+4) (fun k hk=>tC (Ç hq f 0 (by omega)) ih (by omega) (by omega) (by omega) (by omega) hq) (by omega) (by omega) (by omega) h
def Τ {f:Nat}(hq:q<1000000)(hm:q+310+17*f<=m)(hm1:10010<=m){s t:PS}(h:gD td (f8 (fu q f 0) (Ek q f) q) q {s with nd:=[],ne:=0}=some (a,t)):
  Ω m 107 [.box 0 0,pB true] (NO.mk s.B.tk s.B.ps s.B.en s.B.aT s.B.er 0 s.B.tt).hp=some (pI a,t.A.hp):=
 E_yblockN (c:=q+300+17*f+4) (fun k hk=>tC (Ç hq f 0 (by omega)) (aaA hq f f (Nat.le_refl f)) (by omega) (by omega) (by omega) (by omega) hq) (by omega) hm1 (by omega) h
def C3 (vk vn:Int)(vs:LN)(hm1:110<=m)(hq:q+1<=m)(hq':q<1000000){s t:PS}{l:LI}(h:EC O8 (snoc pInt) 16 q l s=some (l',t)):
  Ω m 104 [.box 0 0,pI 16,.fn 116 [.box 1 0],.fn 117 [.box 2 0,.box 1 0]] (s.BI vk vn vs (l.map iE)).hp=some (.tup [],(t.BI vk vn vs (l'.map iE)).hp):=by
 obtain⟨m,rfl,-⟩:=aH (show 0+1<=m by omega);apply Dj m (s.BI vk vn vs (l.map iE)) 16;unfold rN;obtain⟨hz,h⟩:=aD h;have e1:Ω m 43 [.box 0 0,pS [41]] (cg.mk (s.BI vk vn vs (l.map iE)).tk (s.BI vk vn vs (l.map iE)).ps (s.BI vk vn vs (l.map iE)).en (s.BI vk vn vs (l.map iE)).aT (s.BI vk vn vs (l.map iE)).er (s.BI vk vn vs (l.map iE)).ne (s.BI vk vn vs (l.map iE)).tt (s.BI vk vn vs (l.map iE)).nd).hp=some (pB (s.is [41]),s.B.hp):=og (m:=m) s _ hz (by omega);simp only[evC_known e1,aE,aj,jh];rcases h with⟨hk,h⟩|⟨hk,h⟩
 ·obtain⟨rfl,rfl⟩:=au h;rw[hk];rfl
 ·rw[hk,aG];exact K1 (by omega) vk vn vs q s t 0 l l' h (by omega) m (by omega)
def C4 (vk vn:Int)(vs:LN)(hm1:110<=m)(hq:q+1<=m)(hq':q<1000000){s t:PS}{l l':List LN}(h:EC Kn (snoc ((jk 4).bnd fun t=> .ret t.s)) 16 q l s=some (l',t)):
  Ω m 104 [.box 0 0,pI 16,.fn 119 [.box 1 0],.fn 120 [.box 2 0,.box 1 0]] (s.BL vk vn vs (l.map Da.str)).hp=some (.tup [],(t.BL vk vn vs (l'.map Da.str)).hp):=by
 obtain⟨m,rfl,-⟩:=aH (show 0+1<=m by omega);apply Dk m (s.BL vk vn vs (l.map Da.str)) 16;unfold rO;obtain⟨hz,h⟩:=aD h;have e1:Ω m 43 [.box 0 0,pS [41]] (cg.mk (s.BL vk vn vs (l.map Da.str)).tk (s.BL vk vn vs (l.map Da.str)).ps (s.BL vk vn vs (l.map Da.str)).en (s.BL vk vn vs (l.map Da.str)).aT (s.BL vk vn vs (l.map Da.str)).er (s.BL vk vn vs (l.map Da.str)).ne (s.BL vk vn vs (l.map Da.str)).tt (s.BL vk vn vs (l.map Da.str)).nd).hp=some (pB (s.is [41]),s.B.hp):=og (m:=m) s _ hz (by omega);simp only[evC_known e1,aE,aj,jh];rcases h with⟨hk,h⟩|⟨hk,h⟩
 ·obtain⟨rfl,rfl⟩:=au h;rw[hk];rfl
 ·rw[hk,aG];exact K2 (by omega) vk vn vs q s t 0 l l' h (by omega) m (by omega)
def FI (hm1:120<=m)(hq:q+2<=m)(hq':q<1000000){s t:PS}{v:Va}(h:oX q s=some (v,t)):Ω m 103 [.box 0 0] s.B.hp=some (.p v.e,t.B.hp):=by
 obtain⟨m,rfl,-⟩:=aH (show 0+1<=m by omega);apply F0 m s.B;unfold tR;obtain⟨hz,h⟩:=A0 h;have hp:=ly (m:=m) s 0 (by decide) hz (by omega);simp at hp;have hac:=fun x=>fH (m:=m) s x hz (by omega)
 simp only[evC_known hp,aE,W0,jh,show(s.peek 0).r.Kind=(s.peek 0).k from rfl];rcases h with⟨h1,h⟩|⟨h1,h2,h⟩|⟨h1,h2,h3,h⟩|⟨h1,h2,h3,h⟩
 ·injection h with h4 h5;subst h4 h5;rw[h1,az,upB hz (by decide) h1];rfl
 ·injection h with h4 h5;subst h4 h5;rw[h1,aG];simp only[evC_known (hac _),aE,aj,jh];rw[h2,az];rfl
 ·injection h with h4 h5;subst h4 h5;rw[h1,aG];simp only[evC_known (hac _),aE,aj,jh];rw[h2,aG,cond_false];simp only[evC_known (hac _),aE,aj,jh];rw[h3,az];rfl
 ·rw[h1,aG];simp only[evC_known (hac _),aE,aj,jh];rw[h2,aG,cond_false];simp only[evC_known (hac _),aE,aj,jh];rw[h3,aG,cond_false];simp only[evC_known (hac _),jh];cases c4:s.is [105,110,116,115]with
  |true=>
   have h:=iQ h c4;obtain⟨_,s1,h5,h⟩:=aa h;obtain⟨-,rfl⟩:=cW h5;obtain⟨_,s2,h6,h⟩:=aa h;obtain⟨l,s3,h7,h⟩:=aa h;obtain⟨_,s4,h8,h⟩:=aa h;obtain⟨rfl,rfl⟩:=au h;have he:Ω m 104 [.box 0 0,pI 16,.fn 116 [.box 1 0],.fn 117 [.box 2 0,.box 1 0]] (mq.mk s2.B.tk s2.B.ps s2.B.en s2.B.aT s2.B.er s2.B.ne s2.B.tt s2.B.nd 4 0 [] 0 []).hp=some (.tup [],(s3.BI 4 0 [] (l.map iE)).hp):=C3 (m:=m) 4 0 [] (by omega) (by omega) hq' h7;have hx:Ω m 74 [.box 0 0,pS [41]] (cg.mk (s3.BI 4 0 [] (l.map iE)).tk (s3.BI 4 0 [] (l.map iE)).ps (s3.BI 4 0 [] (l.map iE)).en (s3.BI 4 0 [] (l.map iE)).aT (s3.BI 4 0 [] (l.map iE)).er (s3.BI 4 0 [] (l.map iE)).ne (s3.BI 4 0 [] (l.map iE)).tt (s3.BI 4 0 [] (l.map iE)).nd).hp=some (.tup [],s4.B.hp):=gT h8 (by omega);simp only[cond_true,evC_known (gT h6 (by omega:63<=m)),jh,evC_known he,afa,evC_known hx];have e3:List.take (s3.BI 4 0 [] (l.map iE)).vi (List.drop 0 (s3.BI 4 0 [] (l.map iE)).il)=l.map iE:=by
    show List.take (l.map iE).length (List.drop 0 (l.map iE))=_;grind
   rw[e3];rfl
  |false=>
   have h:=iP h c4;simp only[cond_false,evC_known (hac _),jh];cases c5:s.is [115,116,114,105,110,103,115]with
   |true=>
    have h:=iQ h c5;obtain⟨_,s1,h5,h⟩:=aa h;obtain⟨-,rfl⟩:=cW h5;obtain⟨_,s2,h6,h⟩:=aa h;obtain⟨l,s3,h7,h⟩:=aa h;obtain⟨_,s4,h8,h⟩:=aa h;obtain⟨rfl,rfl⟩:=au h;have he:Ω m 104 [.box 0 0,pI 16,.fn 119 [.box 1 0],.fn 120 [.box 2 0,.box 1 0]] (mt.mk s2.B.tk s2.B.ps s2.B.en s2.B.aT s2.B.er s2.B.ne s2.B.tt s2.B.nd 5 0 [] 0 []).hp=some (.tup [],(s3.BL 5 0 [] (l.map Da.str)).hp):=C4 (m:=m) 5 0 [] (by omega) (by omega) hq' h7;have hx:Ω m 74 [.box 0 0,pS [41]] (cg.mk (s3.BL 5 0 [] (l.map Da.str)).tk (s3.BL 5 0 [] (l.map Da.str)).ps (s3.BL 5 0 [] (l.map Da.str)).en (s3.BL 5 0 [] (l.map Da.str)).aT (s3.BL 5 0 [] (l.map Da.str)).er (s3.BL 5 0 [] (l.map Da.str)).ne (s3.BL 5 0 [] (l.map Da.str)).tt (s3.BL 5 0 [] (l.map Da.str)).nd).hp=some (.tup [],s4.B.hp):=gT h8 (by omega);simp only[cond_true,evC_known (gT h6 (by omega:63<=m)),jh,evC_known he,afb,evC_known hx];have e3:List.take (s3.BL 5 0 [] (l.map Da.str)).vl (List.drop 0 (s3.BL 5 0 [] (l.map Da.str)).il)=l.map Da.str:=by
     show List.take (l.map Da.str).length (List.drop 0 (l.map Da.str))=_;grind
    rw[e3];rfl
   |false=>
    have h:=iP h c5;obtain⟨n,s1,h6,h⟩:=aa h;obtain⟨rfl,rfl⟩:=au h;simp only[cond_false,evC_known (xw h6 (by omega:65<=m)),jh];rfl
def EM:∀(l:List LN) (i:Int) (s:PS),0<=i->0<=(dn l i s).1/\(dn l i s).1<i+l.length\/l=[]
 |[],i,s,_=> .inr rfl
 |x::r,i,s,hi=>by
  simp only[dn,List.length_cons];cases s.is x with
  |true=>grind
  |false=>
   rw[cond_false];rcases EM r (i+1) s (by omega)with⟨h1,h2⟩|rfl
   ·omega
   ·simp only[dn,List.length_nil];omega
def i_ {s t:PS}{k:Int}(h:pKind s=some (k,t)):0<=k/\k<=5:=by
 obtain⟨hz,h⟩:=Bv h;rcases EM kindL 1 s (by omega)with⟨h1,h2⟩|h1
 ·rw[h]at h1 h2;have:kindL.length=5:=rfl;omega
 ·cases h1
def Xs (hm1:130<=m)(hq:q+3<=m)(hq':q<1000000){s t:PS}{f:Fe}(h:kR q s=some (f,t)):Ω m 76 [.box 0 0] s.B.hp=some (.p f.e,t.B.hp):=by
 obtain⟨m,rfl,-⟩:=aH (show 0+1<=m by omega);apply Yg m s.B;unfold Jg sB;obtain⟨_,s1,h1,h⟩:=aa h;obtain⟨n,s2,h2,h⟩:=aa h;obtain⟨_,s3,h3,h⟩:=aa h;obtain⟨k,s4,h4,h⟩:=aa h;obtain⟨_,s5,h5,h⟩:=aa h;obtain⟨_,s6,h6,h⟩:=aa h;obtain⟨hz,h6⟩:=bb h6;injection h6 with _ h6;obtain⟨v,s7,h7,h⟩:=aa h;obtain⟨_,s8,h8,h⟩:=aa h;obtain⟨rfl,rfl⟩:=au h;have hk:=i_ h4;have hp:=ly (m:=m) s5 0 (by decide) hz (by omega);simp at hp;have his:=fun x=>og (m:=m) s5 x hz (by omega)
 have hcst:=FI (m:=m) (by omega) (by omega) hq' h7;have q2:jn (cE lay0.tab m) s6.B n k=some (.p (Fe.e ⟨n,k,v⟩),s8.B.hp):=by
  unfold jn;simp only[evC_known hcst,jh,evC_known (gT h8 (by omega:63<=m)),ah];rfl
 have q1:∀b,b=cY k s5->dh b (cE lay0.tab m) s5.B n k=some (.p (Fe.e ⟨n,k,v⟩),s8.B.hp):=by
  intro b hb;unfold dh;rw[<-hb]at h6;cases b with
  |true=>
   subst h6;exact q2
  |false=>
   subst h6;simp only[evC_known (dQ (m:=m) s5 13 (by omega)),jh];exact q2
 have kX:∀b1 b2 b3 b4 b5:Bool,b1=(s5.is [45]||eqI (s5.peek 0).k 3)->b2=(s5.is [116,114,117,101]||s5.is [102,97,108,115,101])->b3=eqI (s5.peek 0).k 4->b4=s5.is [105,110,116,115]->b5=s5.is [115,116,114,105,110,103,115]->
   iL (eqI k ↑(0:Nat)) (cE lay0.tab m 44 [(.box 0 0),(pI 13)] s5.B.hp fun d130 o131=>aI d130 fun r132=>ag r132<|aR o131 fun u133=>jn (cE lay0.tab m) u133 n k)
    (iL (eqI k ↑(0+1:Nat)) (dh b1 (cE lay0.tab m) s5.B n k) (iL (eqI k ↑(0+1+1:Nat)) (dh b2 (cE lay0.tab m) s5.B n k) (iL (eqI k ↑(0+1+1+1:Nat)) (dh b3 (cE lay0.tab m) s5.B n k)
     (iL (eqI k ↑(0+1+1+1+1:Nat)) (dh b4 (cE lay0.tab m) s5.B n k) (iL (eqI k ↑(0+1+1+1+1+1:Nat)) (dh b5 (cE lay0.tab m) s5.B n k) none)))))=some (.p (Fe.e ⟨n,k,v⟩),s8.B.hp):=by
  intro b1 b2 b3 b4 b5 e1 e2 e3 e4 e5;have hc:k=0\/k=1\/k=2\/k=3\/k=4\/k=5:=by omega
  rcases hc with rfl|rfl|rfl|rfl|rfl|rfl
  ·have hf:cY 0 s5=false:=rfl;rw[hf]at h6;subst h6;simp only[evC_known (dQ (m:=m) s5 13 (by omega)),jh];exact q2
  ·exact q1 b1 e1
  ·exact q1 b2 e2
  ·exact q1 b3 e3
  ·exact q1 b4 e4
  ·exact q1 b5 e5
 simp only[evC_known (gT h1 (by omega:63<=m)),aL,ah,jh,evC_known (zd h2 (by omega:63<=m)),aE,fo,evC_known (gT h3 (by omega:63<=m)),evC_known (FC h4 (by omega:80<=m)),aW,evC_known (gT h5 (by omega:63<=m)),evC_known (his _),aj,evC_known hp,W0,show(s5.peek 0).r.Kind=(s5.peek 0).k from rfl];cases c1:s5.is [45]<;>cases c2:s5.is [116,114,117,101]<;>simp only[az,aG]<;>(grind)
def PS.M (s:PS)(mn:LN)(mr:Int)(l:LD):CX:=⟨s.tk.map Tk.e,s.ps,s.en,s.aT,s.er,s.ne,s.tt,s.nd.map No.e,mn,l.length,mr,l⟩
def PS.P (s:PS)(mn:LN)(mr:Int)(l:LD):Ō:=⟨s.tk.map Tk.e,s.ps,s.en,s.aT,s.er,s.ne,s.tt,s.nd.map No.e,mn,l.length,mr,l⟩
def PS.Q (s:PS)(mn:LN)(mr:Int)(l:LD):KbQ:=⟨s.tk.map Tk.e,s.ps,s.en,s.aT,s.er,s.ne,s.tt,s.nd.map No.e,mn,l.length,mr,l⟩
def dPM (c:CX)(K:CX->R):RY c.hp K=K c:=rfl
def dKQ (c:KbQ)(K:KbQ->R):KP c.hp K=K c:=rfl
def N1 (s:PS)(hz:s.sz=true)(hm:65<=m):Ω m 105 [.box 0 0] s.Pv.hp=some (pB (Km s),s.Pv.hp):=by
 replace hm:=aH hm;obtain⟨m,rfl,hm⟩:=hm;apply OW m s.Pv;unfold Ae Km;have hp:=ly (m:=m) s 0 (by decide) hz (by omega);have hp':Ω m 73 [.box 0 0,pI 0] (cg.mk s.Pv.tk s.Pv.ps s.Pv.en s.Pv.aT s.Pv.er s.Pv.ne s.Pv.tt s.Pv.nd).hp=some (.p (s.peek 0).e,s.B.hp):=hp;simp only[evC_known hp',show(s.peek 0).r.Kind=(s.peek 0).k from rfl];rfl
def N2 {s t:PS}{l l':List Pa}(mn:LN)(mr:Int)(h:snoc kT l s=some (l',t))(hm:90<=m):
  Ω m 106 [.box 0 0,.box 2 0] (s.P mn mr (l.map Pa.e)).hp=some (.tup [],(t.Q mn mr (l'.map Pa.e)).hp):=by
 replace hm:=aH hm;obtain⟨m,rfl,hm⟩:=hm;obtain⟨x,h1,hl,rfl⟩:=cf h;obtain⟨n,s1,h2,h1⟩:=aa h1;obtain⟨_,s2,h3,h1⟩:=aa h1;obtain⟨k,s3,h4,h1⟩:=aa h1;obtain⟨rfl,rfl⟩:=au h1;apply OX m (s.P mn mr (l.map Pa.e));unfold Af;have hn:Ω m 75 [.box 0 0] (cg.mk (s.P mn mr (l.map Pa.e)).tk (s.P mn mr (l.map Pa.e)).ps (s.P mn mr (l.map Pa.e)).en (s.P mn mr (l.map Pa.e)).aT (s.P mn mr (l.map Pa.e)).er (s.P mn mr (l.map Pa.e)).ne (s.P mn mr (l.map Pa.e)).tt (s.P mn mr (l.map Pa.e)).nd).hp=some (pS n,s1.B.hp):=zd h2 (by omega);simp only[evC_known hn,aE,fo,jh,evC_known (gT h3 (by omega:63<=m)),evC_known (FC h4 (by omega:80<=m)),aW];have e1:Nat.beq (s.P mn mr (l.map Pa.e)).mp (List.length (s.P mn mr (l.map Pa.e)).pl)=true:=Nat.beq_refl _;rw[e1,az,ef (show List.length (s.P mn mr (l.map Pa.e)).pl+List.length [Da.agg [Da.str n,Da.int .i64 k]]<1000000001 by show(l.map Pa.e).length+1<_;grind) (by decide),az];have e2:(s.P mn mr (l.map Pa.e)).pl++[Da.agg [Da.str n,Da.int .i64 k]]=(l++[(⟨n,k⟩:Pa)]).map Pa.e:=by rw[List.map_append];rfl
 rw[e2];rfl
def Q_elM (cc:ab)(mn:LN)(mr:Int)(n12:Nat)(l13:LD)(u:cg)(k0:Int×Int×Bool×cg×LN×Nat×Int×LD->R)(i6 i7:Int)(Y:fJ->R):R:=
 cc 106 [(.box 0 0),(.box 2 0)] (Ō.mk u.tk u.ps u.en u.aT u.er u.ne u.tt u.nd mn n12 mr l13).hp fun d28 o29=>aI d28 fun r30=>ag r30<|KP o29 fun u31=>
  cc 100 [(.box 0 0),(pS [44])] (cg.mk u31.tk u31.ps u31.en u31.aT u31.er u31.ne u31.tt u31.nd).hp fun d32 o33=>dP d32 fun x34=>af x34 fun b35=>aR o33 fun u36=>
  iL (!b35) (k0 (i6,i7,!b35,u36,u31.mn,u31.mp,u31.mr,u31.pl)) (Y (i6,ae .i64 (i7+1),u36,u31.mn,u31.mp,u31.mr,u31.pl))
def Z2 (hm:100<=m){l l1:List Pa}(h2:snoc kT l s1=some (l1,s2))(hz2:s2.sz=true)(mn:LN)(mr:Int)(n:Nat)(k0:(Int×Int×Bool×cg×LN×Nat×Int×LD)->R)(Y:fJ->R):
  Q_elM (cE lay0.tab m) mn mr (l.map Pa.e).length (l.map Pa.e) s1.B k0 4 n Y=iL (!s2.is [44]) (k0 (4,(n:Int),!s2.is [44],(bif s2.is [44]then s2.up else s2).B,mn,(l1.map Pa.e).length,mr,l1.map Pa.e)) (Y (4,ae .i64 ((n:Int)+1),(bif s2.is [44]then s2.up else s2).B,mn,(l1.map Pa.e).length,mr,l1.map Pa.e)):=by
 unfold Q_elM;have hel:Ω m 106 [.box 0 0,.box 2 0] (Ō.mk s1.B.tk s1.B.ps s1.B.en s1.B.aT s1.B.er s1.B.ne s1.B.tt s1.B.nd mn (l.map Pa.e).length mr (l.map Pa.e)).hp=some (.tup [],(s2.Q mn mr (l1.map Pa.e)).hp):=N2 mn mr h2 (by omega);simp only[evC_known hel,dKQ];have hac:Ω m 100 [.box 0 0,pS [44]] (cg.mk (s2.Q mn mr (l1.map Pa.e)).tk (s2.Q mn mr (l1.map Pa.e)).ps (s2.Q mn mr (l1.map Pa.e)).en (s2.Q mn mr (l1.map Pa.e)).aT (s2.Q mn mr (l1.map Pa.e)).er (s2.Q mn mr (l1.map Pa.e)).ne (s2.Q mn mr (l1.map Pa.e)).tt (s2.Q mn mr (l1.map Pa.e)).nd).hp=some (pB (s2.is [44]),(bif s2.is [44]then s2.up else s2).B.hp):=fH (m:=m) s2 _ hz2 (by omega);simp only[evC_known hac,jh];rfl
def K3 {m:Nat}(hm:100<=m)(mn:LN)(mr:Int):∀(q':Nat) (s t:PS) (n:Nat) (l l':List Pa),sN Km (snoc kT) 4 q' n l s=some (l',t)->n+q'<1000000->∀Q,q'<=Q->
  itL (fR (cE lay0.tab m) m (fun(i58,i59,b60,u61,s62,n63,i64,l65)=>some ((.tup []),({u61 with mn:=s62,mp:=n63,mr:=i64,pl:=l65}:CX).hp)) (fun(i58,i59,b60,u61,s62,n63,i64,l65)=>some ((.tup []),({u61 with mn:=s62,mp:=n63,mr:=i64,pl:=l65}:CX).hp))) Q (4,(n:Int),s.B,mn,(l.map Pa.e).length,mr,l.map Pa.e)=some (.tup [],(t.M mn mr (l'.map Pa.e)).hp)
 |0,s,t,n,l,l',h,hn,Q,hQ=>by cases h
 |q'+1,s,t,n,l,l',h,hn,Q,hQ=>by
  obtain⟨Q,rfl⟩:∃j,Q=j+1:=⟨Q - 1,by omega⟩
  rw[aM];simp only[fR,evC_known (pU (m:=m) s (by omega)),aE,aj,jh];rcases bT h with⟨hk,h⟩|⟨hk,h⟩
  ·obtain⟨_,s1,h1,h⟩:=aa h;obtain⟨hz,h1⟩:=bb h1;injection h1 with _ h1;obtain⟨l1,s2,h2,h⟩:=aa h;obtain⟨hz2,h⟩:=aD h;have hb:=(show Ω m 105 [.box 0 0] (AH.mk s.B.tk s.B.ps s.B.en s.B.aT s.B.er s.B.ne s.B.tt s.B.nd).hp=some (pB (Km s),s.Pv.hp)from N1 (m:=m) s hz (by omega))
   have kX:∀(X:R),X=Q_elM (cE lay0.tab m) mn mr (l.map Pa.e).length (l.map Pa.e) s1.B (fun(i58,i59,b60,u61,s62,n63,i64,l65)=>some ((.tup []),({u61 with mn:=s62,mp:=n63,mr:=i64,pl:=l65}:CX).hp)) 4 n (itL (fR (cE lay0.tab m) m (fun(i58,i59,b60,u61,s62,n63,i64,l65)=>some ((.tup []),({u61 with mn:=s62,mp:=n63,mr:=i64,pl:=l65}:CX).hp)) (fun(i58,i59,b60,u61,s62,n63,i64,l65)=>some ((.tup []),({u61 with mn:=s62,mp:=n63,mr:=i64,pl:=l65}:CX).hp))) Q)->X=some (.tup [],(t.M mn mr (l'.map Pa.e)).hp):=by
    intro X hX;rw[hX,Z2 hm h2 hz2];rcases h with⟨hc,h⟩|⟨hc,h⟩
    ·obtain⟨_,s3,h3,h⟩:=aa h;obtain⟨-,rfl⟩:=cW h3;rw[hc,Bool.not_true,aG,cond_true,wS (show n<bX by unfold bX;omega)];exact K3 hm mn mr q' s2.up t (n+1) l1 l' h (by omega) Q (by omega)
    ·obtain⟨rfl,rfl⟩:=au h;rw[hc];rfl
   apply kX;rw[hk,az];simp only[evC_known hb,dPv];have f13:Ω m 44 [.box 0 0,pI 13] (cg.mk s.Pv.tk s.Pv.ps s.Pv.en s.Pv.aT s.Pv.er s.Pv.ne s.Pv.tt s.Pv.nd).hp=some (.tup [],(s.fail 13).B.hp):=dQ (m:=m) s 13 (by omega);have f5:Ω m 44 [.box 0 0,pI 5] (cg.mk s.Pv.tk s.Pv.ps s.Pv.en s.Pv.aT s.Pv.er s.Pv.ne s.Pv.tt s.Pv.nd).hp=some (.tup [],(s.fail 5).B.hp):=dQ (m:=m) s 5 (by omega);simp only[evC_known f13,evC_known f5,show eqI (n:Int) 4=Nat.beq n 4 from rfl];rw[<-h1];cases Km s with
   |false=>rfl
   |true=>cases Nat.beq n 4<;>rfl
  ·obtain⟨rfl,rfl⟩:=au h;rw[hk];rfl
def FJ (mn:LN)(mr:Int)(hm1:110<=m)(hq:q+1<=m)(hq':q<1000000 - 10){s t:PS}{l l':List Pa}(h:EC Km (snoc kT) 4 q l s=some (l',t)):
  Ω m 104 [.box 0 0,pI 4,.fn 105 [.box 1 0],.fn 106 [.box 1 0,.box 2 0]] (s.M mn mr (l.map Pa.e)).hp=some (.tup [],(t.M mn mr (l'.map Pa.e)).hp):=by
 obtain⟨m,rfl,-⟩:=aH (show 0+1<=m by omega);apply F2 m (s.M mn mr (l.map Pa.e)) 4;unfold tU;obtain⟨hz,h⟩:=aD h;have e1:Ω m 43 [.box 0 0,pS [41]] (cg.mk (s.M mn mr (l.map Pa.e)).tk (s.M mn mr (l.map Pa.e)).ps (s.M mn mr (l.map Pa.e)).en (s.M mn mr (l.map Pa.e)).aT (s.M mn mr (l.map Pa.e)).er (s.M mn mr (l.map Pa.e)).ne (s.M mn mr (l.map Pa.e)).tt (s.M mn mr (l.map Pa.e)).nd).hp=some (pB (s.is [41]),s.B.hp):=og (m:=m) s _ hz (by omega);simp only[evC_known e1,aE,aj,jh];rcases h with⟨hk,h⟩|⟨hk,h⟩
 ·obtain⟨rfl,rfl⟩:=au h;rw[hk];rfl
 ·rw[hk,aG];exact K3 (by omega) mn mr q s t 0 l l' h (by omega) m (by omega)
variable {f:Nat}
def Ua (hm:q+320+17*f<=m)(hm1:10020<=m)(hq':q<1000000 - 10){s t:PS}{x:Me}(h:sc f q s=some (x,t)):Ω m 77 [.box 0 0] s.B.hp=some (.p x.e,t.B.hp):=by
 obtain⟨m,rfl,-⟩:=aH (show 0+1<=m by omega);apply UH m s.B;unfold D2;obtain⟨_,s1,h1,h⟩:=aa h;obtain⟨n,s2,h2,h⟩:=aa h;obtain⟨_,s3,h3,h⟩:=aa h;obtain⟨ps,s4,h4,h⟩:=aa h;obtain⟨_,s5,h5,h⟩:=aa h;obtain⟨k,s6,h6,h⟩:=aa h;obtain⟨ns,s7,h7,h⟩:=aa h;obtain⟨rfl,rfl⟩:=au h;have he:Ω m 104 [.box 0 0,pI 4,.fn 105 [.box 1 0],.fn 106 [.box 1 0,.box 2 0]] (CX.mk s3.B.tk s3.B.ps s3.B.en s3.B.aT s3.B.er s3.B.ne s3.B.tt s3.B.nd n 0 0 []).hp=some (.tup [],(s4.M n 0 (ps.map Pa.e)).hp):=FJ (m:=m) n 0 (by omega) (by omega) hq' h4;have hx:Ω m 74 [.box 0 0,pS [41]] (cg.mk (s4.M n 0 (ps.map Pa.e)).tk (s4.M n 0 (ps.map Pa.e)).ps (s4.M n 0 (ps.map Pa.e)).en (s4.M n 0 (ps.map Pa.e)).aT (s4.M n 0 (ps.map Pa.e)).er (s4.M n 0 (ps.map Pa.e)).ne (s4.M n 0 (ps.map Pa.e)).tt (s4.M n 0 (ps.map Pa.e)).nd).hp=some (.tup [],s5.B.hp):=gT h5 (by omega);have hbody:∀(K:R->Prop),∃u a,gD td (f8 (fu q f 0) (Ek q f) q) q {s6 with nd:=[],ne:=0}=some (a,u)/\ns=u.nd/\s7={u with tt:=ae .i64 (u.tt+(u.nd.length:Int))}:=by
  unfold sb at h7;grind
 obtain⟨u,a,hb,rfl,rfl⟩:=hbody fun _=>True
 have hB:=Τ (m:=m) (by omega) (by omega) (by omega) hb;have kX:∀k:Int,some ((.p (.agg [(.str (s4.M n 0 (ps.map Pa.e)).mn),(.slice 2 (List.take (s4.M n 0 (ps.map Pa.e)).mp (List.drop 0 (s4.M n 0 (ps.map Pa.e)).pl))),(.int .i64 k),(.slice 8 (List.take u.A.nd (List.drop 0 u.A.no)))])),(cg.mk u.A.tk u.A.ps u.A.en u.A.aT u.A.er u.A.ne (ae .i64 (u.A.tt+ ↑ (List.length (List.take u.A.nd (List.drop 0 u.A.no))))) (List.take u.A.nd (List.drop 0 u.A.no))).hp)=(some (.p (Me.e ⟨n,ps,k,u.nd⟩),PS.B {u with tt:=ae .i64 (u.tt+(u.nd.length:Int))} |>.hp):R):=by
  intro k;have e1:List.take (s4.M n 0 (ps.map Pa.e)).mp (List.drop 0 (s4.M n 0 (ps.map Pa.e)).pl)=ps.map Pa.e:=by
   show List.take (ps.map Pa.e).length (List.drop 0 (ps.map Pa.e))=_;grind
  have e2:List.take u.A.nd (List.drop 0 u.A.no)=u.nd.map No.e:=by
   show List.take u.nd.length (List.drop 0 (u.nd.map No.e))=_;rw[List.drop_zero,mβ (by simp)]
  rw[e1,e2,lζ];rfl
 obtain⟨hz,h6⟩:=aD h6;simp only[evC_known (gT h1 (by omega:63<=m)),aL,ah,jh,evC_known (zd h2 (by omega:63<=m)),aE,fo,evC_known (gT h3 (by omega:63<=m)),evC_known he,dPM,evC_known hx,evC_known (fH (m:=m) s5 _ hz (by omega)),aj];rcases h6 with⟨hk,h6⟩|⟨hk,h6⟩
 ·obtain⟨_,s8,h8,h6⟩:=aa h6;obtain⟨-,rfl⟩:=cW h8;simp only[hk,az,cond_true,evC_known (FC h6 (by omega:80<=m)),aE,aW,jh,evC_known hB,cP];grind
 ·obtain⟨rfl,rfl⟩:=au h6;simp only[hk,cond_false,evC_known hB,cP];exact kX 0
def xO (hm:130<=m)(hq:q+3<=m)(hq':q<1000000){s t:PS}{l l':List Fe}(h:snoc (kR q) l s=some (l',t))(Y:lE->R)(x y:LN):
  Q_yactor_1 (cE lay0.tab m) s.B (l.map Fe.e).length (l.map Fe.e) Y x y=Y (t.B,x,y,(l'.map Fe.e).length,l'.map Fe.e):=by
 obtain⟨f,h1,hl,rfl⟩:=cf h;unfold Q_yactor_1;simp only[evC_known (Xs hm hq hq' h1),aE,dFe,jh,show ∀x:Nat,Nat.beq x x=true from fun x=>Nat.beq_refl x,az];rw[ef (by grind) (by decide),az,List.map_append];rfl
def BN (hm:q+320+17*f<=m)(hm1:10020<=m)(hq':q<1000000 - 10){s t:PS}{l l':List Me}(h:snoc (sc f q) l s=some (l',t))(Y:lF->R)(x y:LN)(n:Nat)(r:LD):
  Q_yactor_2 (cE lay0.tab m) s.B (l.map Me.e).length (l.map Me.e) Y x y n r=Y (t.B,x,y,n,(l'.map Me.e).length,r,l'.map Me.e):=by
 obtain⟨g,h1,hl,rfl⟩:=cf h;unfold Q_yactor_2;simp only[evC_known (Ua hm hm1 hq' h1),aE,dMe,jh,show ∀x:Nat,Nat.beq x x=true from fun x=>Nat.beq_refl x,az];rw[ef (by grind) (by decide),az,List.map_append];rfl
def xN {m q:Nat}(hm:130<=m)(hq:q+3<=m)(hq':q<1000000)(x y:LN)(k0:Bool×cg×LN×LN×Nat×LD->R):∀(q':Nat) (s t:PS) (l l':List Fe),hH [115,116,97,116,101] 8 (kR q) q' l s=some (l',t)->∀Q,q'<=Q->
  itL (oB (cE lay0.tab m) m k0) Q (s.B,x,y,(l.map Fe.e).length,l.map Fe.e)=k0 (false,t.B,x,y,(l'.map Fe.e).length,l'.map Fe.e)
 |0,s,t,l,l',h,Q,hQ=>by cases h
 |q'+1,s,t,l,l',h,Q,hQ=>by
  obtain⟨Q,rfl⟩:∃j,Q=j+1:=⟨Q - 1,by omega⟩
  rw[aM];obtain⟨hz,h⟩:=aD h;simp only[oB,evC_known (og (m:=m) s _ hz (by omega)),aE,aj,jh];rcases h with⟨hk,h⟩|⟨hk,h⟩
  ·obtain⟨_,s1,h1,h⟩:=aa h;obtain⟨-,h1⟩:=bb h1;injection h1 with _ h1;obtain⟨l1,s2,h2,h⟩:=aa h;have e8:eqI (((l.map Fe.e).length:Nat):Int) 8=Nat.beq l.length 8:=by rw[lζ];rfl
   have ih:=xN hm hq hq' x y k0 q' s2 t l1 l' h Q (by omega);rw[hk,az,e8];cases hb:Nat.beq l.length 8 with
   |true=>
    rw[hb,cond_true]at h1;subst h1;simp only[evC_known (dQ (m:=m) s 5 (by omega)),jh];rw[xO hm hq hq' h2];exact ih
   |false=>
    rw[hb,cond_false]at h1;subst h1;rw[aG,xO hm hq hq' h2];exact ih
  ·obtain⟨rfl,rfl⟩:=au h;rw[hk];rfl
def BM {m f q:Nat}(hm:q+320+17*f<=m)(hm1:10020<=m)(hq':q<1000000 - 10)(x y:LN)(n:Nat)(r:LD)(k0:Bool×cg×LN×LN×Nat×Nat×LD×LD->R):∀(q':Nat) (s t:PS) (l l':List Me),hH [109,101,116,104,111,100] 16 (sc f q) q' l s=some (l',t)->∀Q,q'<=Q->
  itL (oC (cE lay0.tab m) m k0) Q (s.B,x,y,n,(l.map Me.e).length,r,l.map Me.e)=k0 (false,t.B,x,y,n,(l'.map Me.e).length,r,l'.map Me.e)
 |0,s,t,l,l',h,Q,hQ=>by cases h
 |q'+1,s,t,l,l',h,Q,hQ=>by
  obtain⟨Q,rfl⟩:∃j,Q=j+1:=⟨Q - 1,by omega⟩
  rw[aM];obtain⟨hz,h⟩:=aD h;simp only[oC,evC_known (og (m:=m) s _ hz (by omega)),aE,aj,jh];rcases h with⟨hk,h⟩|⟨hk,h⟩
  ·obtain⟨_,s1,h1,h⟩:=aa h;obtain⟨-,h1⟩:=bb h1;injection h1 with _ h1;obtain⟨l1,s2,h2,h⟩:=aa h;have e8:eqI (((l.map Me.e).length:Nat):Int) 16=Nat.beq l.length 16:=by rw[lζ];rfl
   have ih:=BM hm hm1 hq' x y n r k0 q' s2 t l1 l' h Q (by omega);rw[hk,az,e8];cases hb:Nat.beq l.length 16 with
   |true=>
    rw[hb,cond_true]at h1;subst h1;simp only[evC_known (dQ (m:=m) s 5 (by omega)),jh];rw[BN hm hm1 hq' h2];exact ih
   |false=>
    rw[hb,cond_false]at h1;subst h1;rw[aG,BN hm hm1 hq' h2];exact ih
  ·obtain⟨rfl,rfl⟩:=au h;rw[hk];rfl
def Xq (hm:q+321+17*f<=m)(hm1:10021<=m)(hq':q<1000000 - 10){s t:PS}{x:Ac}(h:oW f q s=some (x,t)):Ω m 45 [.box 0 0] s.B.hp=some (.p x.e,t.B.hp):=by
 obtain⟨m,rfl,-⟩:=aH (show 0+1<=m by omega);apply Ya m s.B;unfold Ja;obtain⟨_,s1,h1,h⟩:=aa h;obtain⟨n,s2,h2,h⟩:=aa h;obtain⟨_,s3,h3,h⟩:=aa h;obtain⟨fs,s4,h4,h⟩:=aa h;obtain⟨ms,s5,h5,h⟩:=aa h;obtain⟨_,s6,h6,h⟩:=aa h;obtain⟨rfl,rfl⟩:=au h;simp only[evC_known (gT h1 (by omega:63<=m)),jh,evC_known (zd h2 (by omega:63<=m)),aE,fo,evC_known (gT h3 (by omega:63<=m))];have l1:=fun k0=>xN (m:=m) (by omega) (by omega) (by omega) [] n k0 q s3 s4 [] fs h4 m (by omega)
 simp only[List.map_nil,List.length_nil]at l1;rw[l1];have l2:=fun k0=>BM (m:=m) (by omega) (by omega) hq' [] n (fs.map Fe.e).length (fs.map Fe.e) k0 q s4 s5 [] ms h5 m (by omega)
 simp only[List.map_nil,List.length_nil]at l2;rw[l2];simp only[evC_known (gT h6 (by omega:63<=m)),List.drop_zero,List.take_length];rfl
def QW (hm:q+321+17*f<=m)(hm1:10021<=m)(hq':q<1000000 - 10){s t:PS}{l l':List Ac}(h:snoc (oW f q) l s=some (l',t))(Y:lD->R)(r:LD):
  Q_yParse_1 (cE lay0.tab m) s.B (l.map Ac.e).length (l.map Ac.e) Y r=Y (r,(l'.map Ac.e).length,l'.map Ac.e,t.B):=by
 obtain⟨g,h1,hl,rfl⟩:=cf h;unfold Q_yParse_1;simp only[evC_known (Xq hm hm1 hq' h1),dAc];change iL (Nat.beq (l.map Ac.e).length (l.map Ac.e).length) (iL (cO ((l.map Ac.e).length+List.length [Ac.e g]) 64) (Y (r,((l.map Ac.e)++[Ac.e g]).length,(l.map Ac.e)++[Ac.e g],t.B)) none) none=_;rw[show Nat.beq (l.map Ac.e).length (l.map Ac.e).length=true from Nat.beq_refl _,az,ef (by grind) (by decide),az,List.map_append];rfl
def CN {m f q:Nat}(hm:q+321+17*f<=m)(hm1:10021<=m)(hq':q<1000000 - 10)(tk:List Tk):∀(q':Nat) (s t:PS) (l l':List Ac),gS tk.length f q q' l s=some (l',t)->∀Q,q'<=Q->
  ∃b1:Bool,∀k0:LD×Bool×Nat×LD×cg->R,itL (jq (cE lay0.tab m) m k0) Q (tk.map Tk.e,(l.map Ac.e).length,l.map Ac.e,s.B)=k0 (tk.map Tk.e,b1,(l'.map Ac.e).length,l'.map Ac.e,t.B)
 |0,s,t,l,l',h,Q,hQ=>by cases h
 |q'+1,s,t,l,l',h,Q,hQ=>by
  obtain⟨Q,rfl⟩:∃j,Q=j+1:=⟨Q - 1,by omega⟩
  rcases bT h with⟨hk,h⟩|⟨hk,h⟩
  ·obtain⟨hz,h⟩:=aD h;have elt:aO s.B.ps (((tk.map Tk.e).length:Nat):Int)=decide (s.ps<tk.length):=by
    show aO (s.ps:Int) _=_;rw[cZ,lζ,decide_eq_decide];omega
   rcases h with⟨hc,h⟩|⟨hc,h⟩
   ·obtain⟨_,s1,h1,h⟩:=aa h;obtain⟨-,h1⟩:=bb h1;injection h1 with _ h1;obtain⟨l1,s2,h2,h⟩:=aa h;obtain⟨b1,ih⟩:=CN hm hm1 hq' tk q' s2 t l1 l' h Q (by omega);refine⟨b1,fun k0=>?_⟩
    rw[aM];have e8:eqI (((l.map Ac.e).length:Nat):Int) 8=Nat.beq l.length 8:=by rw[lζ];rfl
    simp only[jq,evC_known (pU (m:=m) s (by omega)),aE,aj,jh,hk,az,elt,hc,evC_known (og (m:=m) s _ hz (by omega)),e8,evC_known (dQ (m:=m) s 5 (by omega)),aL,ah];have st:=fun Y=>QW hm hm1 hq' h2 Y (tk.map Tk.e)
    rw[<-h1]at st;cases c1:s.is [97,99,116,111,114]with
    |true=>
     cases c2:Nat.beq l.length 8 with
     |true=>
      rw[c1,c2]at st;simp only[Bool.and_self,cond_true]at st;rw[az,az,st];grind
     |false=>
      rw[c1,c2]at st;simp only[Bool.and_false,cond_false]at st;rw[az,aG,st];grind
    |false=>
     rw[c1]at st;simp only[Bool.false_and,cond_false]at st;rw[aG,st];grind
   ·obtain⟨rfl,rfl⟩:=au h;refine⟨false,fun k0=>?_⟩
    rw[aM];simp only[jq,evC_known (pU (m:=m) s (by omega)),aE,aj,jh,hk,az,elt,hc,aG]
  ·obtain⟨rfl,rfl⟩:=au h;refine⟨false,fun k0=>?_⟩
   rw[aM];simp only[jq,evC_known (pU (m:=m) s (by omega)),aE,aj,jh,hk,aG]
def MU (r:List Ac×Int×Int):D:= .tup [.p (.agg [.slice 3 (r.1.map Ac.e)]),pI r.2.1,pI r.2.2]
def Xk (hm:q+322+17*f<=m)(hm1:10022<=m)(hq':q<1000000 - 10){tk:List Tk}{en:Int}{r:List Ac×Int×Int}(h:nf tk en f q=some r):
  Ω m 14 [pL 4 (tk.map Tk.e),pI en] []=some (MU r,[]):=by
 obtain⟨m,rfl,-⟩:=aH (show 0+1<=m by omega);apply X5 m (tk.map Tk.e) en;unfold nf at h;cases hg:gS tk.length f q q [] ⟨tk,0,en,0,0,0,0,[]⟩with
 |none=>simp_all
 |some r0=>
  obtain⟨l,s⟩:=r0;rw[hg]at h;injection h with h;obtain⟨b1,e⟩:=CN (m:=m) (by omega) (by omega) hq' tk q _ s [] l hg m (by omega);refine(e _).trans ?_;simp only[evC_known (pU (m:=m) s (by omega)),jh];subst h;cases hk:s.ok with
  |false=>rfl
  |true=>
   simp only[List.drop_zero,List.take_length];rfl
def jQ (src:LN)(f q:Nat):Option (List Ac×Int×Int):=bif !eqI (jf src).2.2 0 then some ([],(jf src).2.1,(jf src).2.2)else nf (jf src).1 (src.length:Int) f q
def vY (hm:q+323+17*f<=m)(hm1:10023<=m)(hq':q<1000000 - 10){src:LN}(hb:By src){r:List Ac×Int×Int}(h:jQ src f q=some r):
  Ω m 11 [pS src] []=some (MU r,[]):=by
 obtain⟨m,rfl,-⟩:=aH (show 0+1<=m by omega);apply UC m src;unfold DX;unfold jQ at h;simp only[evC_known (Ub (m:=m) src hb (by omega)),ĳ,aL,iR,aE,A3,aW,ah];cases he:eqI (jf src).2.2 0 with
 |false=>
  rw[he,Bool.not_false,cond_true]at h;injection h with h;subst h;rfl
 |true=>
  rw[he,Bool.not_true,cond_false]at h;simp only[evC_known (Xk (m:=m) (by omega) (by omega) hq' h)];rfl
end
end Go.Ab
