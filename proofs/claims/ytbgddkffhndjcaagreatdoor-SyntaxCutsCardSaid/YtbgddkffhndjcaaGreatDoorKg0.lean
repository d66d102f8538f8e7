import Derived.Test.YtbgddkffhndjcaaGreatDoorAl
import Derived.Test.YtbgddkffhndjcaaGreatDoorDcA
import Derived.Test.YtbgddkffhndjcaaGreatDoorOg0
import Derived.Test.YtbgddkffhndjcaaGreatDoorOg1
set_option linter.all false
section
namespace Go.Ab
open Go
set_option maxRecDepth 100000
noncomputable section
structure Va where
 k:Int
 n:Int
 s:List Nat
 I:List Int
 L:List (List Nat)
structure No where
 op:Int
 name:List Nat
 v:Va
 kids:List Int
structure Pa where
 name:List Nat
 kind:Int
structure Fe where
 name:List Nat
 kind:Int
 init:Va
structure Me where
 name:List Nat
 params:List Pa
 result:Int
 nodes:List No
structure Ac where
 name:List Nat
 fields:List Fe
 methods:List Me
structure Tk where
 k:Int
 s:List Nat
 n:Int
 a:Int
structure PS where
 tk:List Tk
 ps:Nat
 en:Int
 aT:Int
 er:Int
 ne:Int
 tt:Int
 nd:List No
def iE (i:Int):Da:= .int .i64 i
def lI:Nat:=1000000000000
theorem wS {i:Nat}(h:i<lI):ao .i64 ((i:Int)+1)=((i+1:Nat):Int):=by
 unfold lI at h;rw[gT (by omega) (by omega)];omega
theorem DO {a b:Int}(h:a<b):br a b=true:=by rw[p9];simpa using h
theorem Bh {a b:Int}(h:¬a<b):br a b=false:=by rw[p9];simpa using h
theorem Fi (a:Int):br a a=false:=Bh (Int.lt_irrefl a)
theorem UX {a b:Int}(h:¬a=b):eqI a b=false:=by rw[dJ];simpa using h
theorem nv {a b:Int}(h:a≤b):be a b=true:=by rw[j1];simpa using h
theorem UD {a b:Int}(h:¬a≤b):be a b=false:=by rw[j1];simpa using h
theorem TW (a b:Bool)(t e:R):iL a t (iL b t e)=iL (a||b) t e:=by cases a<;>rfl
theorem jL (a x y:Bool):iL a (some ((.p (.bool x)),[])) (some ((.p (.bool y)),[]))=some ((.p (.bool (bif a then x else y))),[]):=by cases a<;>rfl
theorem zS (a:Bool):(bif a then true else false)=a:=by cases a<;>rfl
theorem UL (a:Bool):(bif a then false else true)=!a:=by cases a<;>rfl
theorem OP (a b:Bool):(bif a then b else false)=(a&&b):=by cases a<;>rfl
theorem TF (a b:Bool):(bif a then true else b)=(a||b):=by cases a<;>rfl
def I4 (c:Int):Bool:=(be 97 c&&be c 122)||((be 65 c&&be c 90)||eqI c 95)
def eM (c:Int):Bool:=be 48 c&&be c 57
def F5 (c:Int):Bool:=I4 c||eM c
def Nu (c:Int):Bool:=be 32 c&&(be c 126&&(!eqI c 34&&!eqI c 92))
def E7 (s:List Nat):Bool:=[[97,99,116,111,114],[115,116,97,116,101],[109,101,116,104,111,100],[108,101,116],[105,102],[101,108,115,101],[119,104,105,108,101],[114,101,116,117,114,110],[102,97,105,108],[99,97,108,108],[101,109,105,116],[114,101,109,105,110,100],[99,97,110,99,101,108],[115,101,108,102],[116,114,117,101],[102,97,108,115,101],[105,110,116],[98,111,111,108],[115,116,114,105,110,103],[105,110,116,115],[115,116,114,105,110,103,115]].any fun t=>cM s t
def dY (p:Int→Bool)(s:List Nat):Nat:=(s.takeWhile fun(c:Nat)=>p (c:Int)).length
def fo (s:List Nat):Nat:=bif I4 ((s.headD 0:Nat):Int)then dY F5 s else 0
def G2 (s:List Nat):Bool:=!cM s []&&(be s.length 32&&(eqI (fo s) s.length&&!E7 s))
def nz (s p:List Nat):Bool:=cM (s.take p.length) p
def twoS:List (List Nat):=[[61,61],[33,61],[60,61],[62,61],[38,38],[124,124]]
def oneS:List Nat:=[123,125,40,41,91,93,44,59,58,46,61,60,62,43,45,42,47,37,33]
def rT (s:List Nat):Nat:=bif twoS.any (nz s)then 2 else match s with|[]=>0|c::_=>bif oneS.any (Nat.beq c)then 1 else 0
def Te (s:List Nat):Bool:=!cM s []&&eqI (rT s) (s.length:Int)
def tk0:Tk:=⟨0,[],0,0⟩
def ls (t:Tk):Bool:=bif eqI t.k 1 then G2 t.s else bif eqI t.k 2 then E7 t.s else bif eqI t.k 3 then be 0 t.n else bif eqI t.k 4 then be (t.s.length:Int) 64 else bif eqI t.k 5 then Te t.s else false
def PS.ok (s:PS):Bool:=eqI s.er 0
def PS.fail (s:PS)(e:Int):PS:=bif s.ok then {s with er:=e,aT:=match s.tk[s.ps]? with|some t=>t.a|none=>s.en}else s
def PS.peek (s:PS)(i:Nat):Tk:=bif s.ok then(match s.tk[s.ps+i]? with|some t=>bif ls t then t else tk0|none=>tk0)else tk0
def PS.is (s:PS)(x:List Nat):Bool:=(eqI (s.peek 0).k 2||eqI (s.peek 0).k 5)&&cM (s.peek 0).s x
def PS.up (s:PS):PS:={s with ps:=s.ps+1}
def PS.exp (s:PS)(x:List Nat):PS:=bif s.is x then s.up else s.fail 13
def PS.take (s:PS)(k:Int):Tk×PS:=bif eqI (s.peek 0).k k then(s.peek 0,s.up)else(tk0,s.fail 13)
def PS.opn1 (s:PS)(x:List Nat):PS:=(bif s.is x&&eqI s.ne 24 then s.fail 5 else s).exp x
def PS.open (s:PS)(x:List Nat):PS:={s.opn1 x with ne:=ao .i64 ((s.opn1 x).ne+1)}
def PS.close (s:PS)(x:List Nat):PS:={s.exp x with ne:=ao .i64 ((s.exp x).ne - 1)}
end
end Go.Ab
end
section
namespace Go.Ab
open Go
set_option maxRecDepth 100000
noncomputable section
abbrev PM (α:Type):=PS→Option (α×PS)
namespace PM
def ret {α:Type}(a:α):PM α:=fun s=>some (a,s)
def bnd {α β:Type}(p:PM α)(f:α→PM β):PM β:=fun s=>match p s with|none=>none|some r=>f r.1 r.2
end PM
def PS.sz (s:PS):Bool:=decide (s.ps≤s.tk.length)&&(decide (s.tk.length<1000000)&&s.tk.all fun t=>t.s.all fun c=>decide (c<256))
def lf {α:Type}(g:PS→α×PS):PM α:=fun s=>bif s.sz then some (g s)else none
def cnd {α:Type}(c:PS→Bool)(p q:PM α):PM α:=fun s=>bif s.sz then(bif c s then p s else q s)else none
def cok {α:Type}(p q:PM α):PM α:=fun s=>bif s.ok then p s else q s
def fnO {α:Type}(l:List (List Nat))(p:PM α)(f:List Nat→PM α):PM α:=fun s=>bif s.sz then(match l.find? s.is with|none=>p s|some o=>f o s)else none
def pUp:PM Unit:=lf fun s=>((),s.up)
def sE (e:Int):PM Unit:=lf fun s=>((),s.fail e)
def fd (x:List Nat):PM Unit:=lf fun s=>((),s.exp x)
def lD (x:List Nat):PM Unit:=lf fun s=>((),s.open x)
def hD (x:List Nat):PM Unit:=lf fun s=>((),s.close x)
def j6 (k:Int):PM Tk:=lf fun s=>s.take k
def pName:PM (List Nat):=(j6 1).bnd fun t=> .ret t.s
def pPeek:PM Tk:=lf fun s=>(s.peek 0,s)
def pDec:PM Unit:=fun s=>some ((),{s with ne:=ao .i64 (s.ne - 1)})
def PS.add (s:PS)(x:No):Int×PS:=bif s.ok then((s.nd.length:Int),{s with nd:=s.nd++[x]})else(0,s)
def dX (x:No):PM Int:=fun s=>bif decide (s.nd.length<1000000)&&decide (x.kids.length<1000000)then some (s.add x)else none
def kindL:List (List Nat):=[[105,110,116],[98,111,111,108],[115,116,114,105,110,103],[105,110,116,115],[115,116,114,105,110,103,115]]
def ck:List (List Nat)→Int→PS→Int×PS
 |[],_,s=>(0,s.fail 13)
 |x::r,i,s=>bif s.is x then(i,s.up)else ck r (i+1) s
def pKind:PM Int:=lf fun s=>ck kindL 1 s
def pInt:PM Int:=cnd (fun s=>s.is [45]) (pUp.bnd fun _=>(j6 3).bnd fun t=> .ret (ao .i64 (0 - t.n))) ((j6 3).bnd fun t=> .ret t.n)
def oz {α:Type}(begins:PS→Bool)(elem:α→PM α)(most:Nat):Nat→Nat→α→PM α
 |0,_,_=>fun _=>none
 |q+1,n,a=>cok
   ((lf fun s=>((),bif !begins s then s.fail 13 else bif Nat.beq n most then s.fail 5 else s)).bnd fun _=>
    (elem a).bnd fun a'=>cnd (fun s=>s.is [44]) (pUp.bnd fun _=>oz begins elem most q (n+1) a') (.ret a'))
   (.ret a)
def Gx {α:Type}(begins:PS→Bool)(elem:α→PM α)(most q:Nat)(a:α):PM α:=cnd (fun s=>s.is [41]) (.ret a) (oz begins elem most q 0 a)
def beginL:List (List Nat):=[[116,114,117,101],[102,97,108,115,101],[115,101,108,102],[105,110,116,115],[115,116,114,105,110,103,115],[40],[45],[33]]
def PS.begins (s:PS):Bool:=(eqI (s.peek 0).k 1||(eqI (s.peek 0).k 3||eqI (s.peek 0).k 4))||((eqI (s.peek 0).k 2||eqI (s.peek 0).k 5)&&beginL.any (cM (s.peek 0).s))
def vz:Va:=⟨0,0,[],[],[]⟩
def vI (n:Int):Va:=⟨1,n,[],[],[]⟩
def zK (s:PS):Bool:=s.is [45]||eqI (s.peek 0).k 3
def zM (s:PS):Bool:=eqI (s.peek 0).k 4
def zL (s:PS):Bool:=eqI (s.peek 0).k 1
def snoc {α:Type}(p:PM α)(l:List α):PM (List α):=p.bnd fun x=>fun s=>bif decide (l.length<1000000)then some (l++[x],s)else none
def ig (c:PM Va):PM Va:=cnd (fun s=>eqI (s.peek 0).k 4) (lf fun s=>(⟨3,0,(s.peek 0).s,[],[]⟩,s.up))
 (cnd (fun s=>s.is [116,114,117,101]) (lf fun s=>(⟨2,1,[],[],[]⟩,s.up)) (cnd (fun s=>s.is [102,97,108,115,101]) (lf fun s=>(⟨2,0,[],[],[]⟩,s.up)) c))
def wv (q:Nat):PM Va:=ig
 (cnd (fun s=>s.is [105,110,116,115]) (pUp.bnd fun _=>(fd [40]).bnd fun _=>(Gx zK (snoc pInt) 16 q []).bnd fun l=>(fd [41]).bnd fun _=> .ret ⟨4,0,[],l,[]⟩)
 (cnd (fun s=>s.is [115,116,114,105,110,103,115]) (pUp.bnd fun _=>(fd [40]).bnd fun _=>(Gx zM (snoc ((j6 4).bnd fun t=> .ret t.s)) 16 q []).bnd fun l=>(fd [41]).bnd fun _=> .ret ⟨5,0,[],[],l⟩)
 (pInt.bnd fun n=> .ret (vI n))))
def fR (operand:PM Int)(ops:List (List Nat)):Nat→Int→PM Int
 |0,_=>fun _=>none
 |q+1,x=>fnO ops (.ret x) fun o=>pUp.bnd fun _=>operand.bnd fun y=>(dX ⟨5,o,vz,[x,y]⟩).bnd fun z=>fR operand ops q z
def iW (operand:PM Int)(ops:List (List Nat))(q:Nat):PM Int:=operand.bnd fun x=>fR operand ops q x
def zU:List (List Nat):=[[61,61],[33,61],[60],[60,61],[62],[62,61]]
def Nj (sum:PM Int):PM Int:=sum.bnd fun x=>fnO zU (.ret x) fun o=>pUp.bnd fun _=>sum.bnd fun y=>dX ⟨5,o,vz,[x,y]⟩
def sD (ex:PM Int)(q:Nat):PM (List Int):=(lD [40]).bnd fun _=>(Gx PS.begins (snoc ex) 16 q []).bnd fun l=>(hD [41]).bnd fun _=> .ret l
def Tq (o:List Nat)(fac:PM Int):PM Int:=(lD o).bnd fun _=>(cok fac (.ret 0)).bnd fun x=>pDec.bnd fun _=>dX ⟨4,o,vz,[x]⟩
def FA (fac pr:PM Int):PM Int:=cnd (fun s=>s.is [45]) (Tq [45] fac) (cnd (fun s=>s.is [33]) (Tq [33] fac) pr)
def PS.appl (s:PS):Bool:=eqI (s.peek 1).k 5&&cM (s.peek 1).s [40]
def nH (ex:PM Int)(q:Nat):PM Int:=
 cnd (fun s=>eqI (s.peek 0).k 1&&!s.appl) (pPeek.bnd fun t=>pUp.bnd fun _=>dX ⟨2,t.s,vz,[]⟩)
 (cnd (fun s=>eqI (s.peek 0).k 1||(s.is [105,110,116,115]||s.is [115,116,114,105,110,103,115])) (pPeek.bnd fun t=>pUp.bnd fun _=>(sD ex q).bnd fun l=>dX ⟨6,t.s,vz,l⟩)
 (cnd (fun s=>eqI (s.peek 0).k 3) (pPeek.bnd fun t=>pUp.bnd fun _=>dX ⟨1,[],vI t.n,[]⟩)
 (cnd (fun s=>eqI (s.peek 0).k 4||(s.is [116,114,117,101]||s.is [102,97,108,115,101])) ((ig fun _=>none).bnd fun v=>dX ⟨1,[],v,[]⟩)
 (cnd (fun s=>s.is [115,101,108,102]) (pUp.bnd fun _=>dX ⟨3,[],vz,[]⟩)
 (cnd (fun s=>s.is [40]) ((lD [40]).bnd fun _=>(cok ex (.ret 0)).bnd fun x=>(hD [41]).bnd fun _=> .ret x)
 ((sE 13).bnd fun _=> .ret 0))))))
def pK (q:Nat):Nat→Nat→PM Int
 |0,_=>fun _=>none
 |f+1,0=>iW (pK q f 1) [[124,124]] q
 |f+1,1=>iW (pK q f 2) [[38,38]] q
 |f+1,2=>Nj (pK q f 3)
 |f+1,3=>iW (pK q f 4) [[43],[45]] q
 |f+1,4=>iW (pK q f 5) [[42],[47],[37]] q
 |f+1,5=>FA (pK q f 5) (pK q f 6)
 |f+1,_=>nH (pK q f 0) q
def qk (ex:PM Int)(q:Nat):PM Int:=(fd [99,97,108,108]).bnd fun _=>pName.bnd fun n=>(lD [40]).bnd fun _=>ex.bnd fun key=>(hD [41]).bnd fun _=>(fd [46]).bnd fun _=>pName.bnd fun m=>(sD ex q).bnd fun l=>dX ⟨7,n,⟨0,0,m,[],[]⟩,key::l⟩
def oQ (ex:PM Int)(q:Nat):PM Int:=(fd [61]).bnd fun _=>cnd (fun s=>s.is [99,97,108,108]) (qk ex q) ex
def mI (ex:PM Int):Nat→List Int→PM (List Int)
 |0,l=> .ret l
 |n+1,l=>bif l.isEmpty then(snoc ex l).bnd (mI ex n)else(fd [44]).bnd fun _=>(snoc ex l).bnd (mI ex n)
def AS (ex:PM Int)(n:Nat):PM (List Int):=(lD [40]).bnd fun _=>(mI ex n []).bnd fun l=>(hD [41]).bnd fun _=> .ret l
def mK (x:No):PM Int:=(fd [59]).bnd fun _=>dX x
def wu (op:Int)(ex bl:PM Int):PM Int:=(lD [40]).bnd fun _=>ex.bnd fun c=>(hD [41]).bnd fun _=>bl.bnd fun b=>
 bif eqI op 11 then cnd (fun s=>s.is [101,108,115,101]) (pUp.bnd fun _=>bl.bnd fun e=>dX ⟨op,[],vz,[c,b,e]⟩) (dX ⟨op,[],vz,[c,b]⟩)else dX ⟨op,[],vz,[c,b]⟩
def mN (ex bl:PM Int)(q:Nat):PM Int:=
 cnd (fun s=>s.is [108,101,116]) (pUp.bnd fun _=>pName.bnd fun n=>(fd [58]).bnd fun _=>pKind.bnd fun k=>(oQ ex q).bnd fun x=>mK ⟨8,n,⟨k,0,[],[],[]⟩,[x]⟩)
 (cnd (fun s=>eqI (s.peek 0).k 1) (pName.bnd fun n=>(oQ ex q).bnd fun x=>mK ⟨9,n,vz,[x]⟩)
 (cnd (fun s=>s.is [99,97,108,108]) ((qk ex q).bnd fun x=>mK ⟨10,[],vz,[x]⟩)
 (cnd (fun s=>s.is [105,102]) (pUp.bnd fun _=>wu 11 ex bl)
 (cnd (fun s=>s.is [119,104,105,108,101]) (pUp.bnd fun _=>wu 12 ex bl)
 (cnd (fun s=>s.is [114,101,116,117,114,110]) (pUp.bnd fun _=>cnd (fun s=>s.is [59]) (mK ⟨13,[],vz,[]⟩) (ex.bnd fun x=>mK ⟨13,[],vz,[x]⟩))
 (cnd (fun s=>s.is [102,97,105,108]) (pUp.bnd fun _=>mK ⟨14,[],vz,[]⟩)
 (cnd (fun s=>s.is [101,109,105,116]) (pUp.bnd fun _=>(AS ex 2).bnd fun l=>mK ⟨15,[],vz,l⟩)
 (cnd (fun s=>s.is [114,101,109,105,110,100]) (pUp.bnd fun _=>(AS ex 3).bnd fun l=>mK ⟨16,[],vz,l⟩)
 (cnd (fun s=>s.is [99,97,110,99,101,108]) (pUp.bnd fun _=>(AS ex 1).bnd fun l=>mK ⟨17,[],vz,l⟩)
 ((sE 13).bnd fun _=> .ret 0))))))))))
def fZ (st:PM Int):Nat→List Int→PM (List Int)
 |0,_=>fun _=>none
 |q+1,l=>cok (cnd (fun s=>s.is [125]) (.ret l) ((snoc st l).bnd (fZ st q))) (.ret l)
def hK (op:Int)(hs:List Int):List Int→Nat→Int→Int
 |[],_,m=>m
 |k::r,j,m=>hK op hs r (j+1) (bif(eqI op 11||eqI op 12)&&eqI (j:Int) 0 then(bif br m (ao .i64 (hs.getD k.toNat 0+1))then ao .i64 (hs.getD k.toNat 0+1)else m)else bif br m (hs.getD k.toNat 0)then hs.getD k.toNat 0 else m)
def PQ (op m:Int):Int:=bif eqI op 4 then ao .i64 (m+2)else bif eqI op 5||(eqI op 6||(eqI op 7||(eqI op 15||(eqI op 16||(eqI op 17||eqI op 18)))))then ao .i64 (m+1)else m
def hN:List No→Nat→List Int→List Int
 |[],_,hs=>hs
 |x::r,i,hs=>hN r (i+1) (hs.set i (PQ x.op (hK x.op hs x.kids 0 0)))
def jp (ns:List No):Int:=(hN ns 0 (List.replicate ns.length 0)).getD (ns.length - 1) 0
def rA (n:Nat)(x:No):Bool:=decide (x.kids.length<10000)&&x.kids.all fun k=>be 0 k&&br k n
def wx:PM Unit:=fun s=>bif decide (s.nd.length<10000)&&decide (0<s.nd.length)&&s.nd.all (rA s.nd.length)then
 some ((),bif br 1500 (ao .i64 (s.tt+(s.nd.length:Int)))then s.fail 5 else bif br 24 (jp s.nd)then s.fail 5 else s)else none
def iV (lim:PM Unit)(st:PM Int)(q:Nat):PM Int:=(lD [123]).bnd fun _=>(fZ st q []).bnd fun l=>
 cok ((dX ⟨18,[],vz,l⟩).bnd fun x=>lim.bnd fun _=>(hD [125]).bnd fun _=> .ret x) (.ret 0)
def Ii (q:Nat):Nat→PM Int
 |0=>fun _=>none
 |f+1=>iV (.ret ()) (mN (pK q f 0) (Ii q f) q) q
def mM:PM Pa:=pName.bnd fun n=>(fd [58]).bnd fun _=>pKind.bnd fun k=> .ret ⟨n,k⟩
def wt (f q:Nat):PM (List No):=fun s=>match iV wx (mN (pK q f 0) (Ii q f) q) q {s with nd:=[],ne:=0}with
 |none=>none
 |some (_,u)=>some (u.nd,{u with tt:=ao .i64 (u.tt+(u.nd.length:Int))})
def sF (f q:Nat):PM Me:=(fd [109,101,116,104,111,100]).bnd fun _=>pName.bnd fun n=>(fd [40]).bnd fun _=>(Gx zL (snoc mM) 4 q []).bnd fun ps=>(fd [41]).bnd fun _=>
 (cnd (fun s=>s.is [58]) (pUp.bnd fun _=>pKind) (.ret 0)).bnd fun k=>(wt f q).bnd fun ns=> .ret ⟨n,ps,k,ns⟩
def cQ (k:Int)(s:PS):Bool:=
 bif eqI k 0 then false else bif eqI k 1 then s.is [45]||eqI (s.peek 0).k 3 else bif eqI k 2 then s.is [116,114,117,101]||s.is [102,97,108,115,101]else bif eqI k 3 then eqI (s.peek 0).k 4 else bif eqI k 4 then s.is [105,110,116,115]else s.is [115,116,114,105,110,103,115]
def mL (q:Nat):PM Fe:=(fd [115,116,97,116,101]).bnd fun _=>pName.bnd fun n=>(fd [58]).bnd fun _=>pKind.bnd fun k=>(fd [61]).bnd fun _=>
 (lf fun s=>((),bif !cQ k s then s.fail 13 else s)).bnd fun _=>(wv q).bnd fun v=>(fd [59]).bnd fun _=> .ret ⟨n,k,v⟩
def fc {α:Type}(w:List Nat)(most:Nat)(p:PM α):Nat→List α→PM (List α)
 |0,_=>fun _=>none
 |q+1,l=>cnd (fun s=>s.is w) ((lf fun s=>((),bif Nat.beq l.length most then s.fail 5 else s)).bnd fun _=>(snoc p l).bnd (fc w most p q)) (.ret l)
def lr (f q:Nat):PM Ac:=(fd [97,99,116,111,114]).bnd fun _=>pName.bnd fun n=>(fd [123]).bnd fun _=>(fc [115,116,97,116,101] 8 (mL q) q []).bnd fun fs=>(fc [109,101,116,104,111,100] 16 (sF f q) q []).bnd fun ms=>(fd [125]).bnd fun _=> .ret ⟨n,fs,ms⟩
def cH (n f q:Nat):Nat→List Ac→PM (List Ac)
 |0,_=>fun _=>none
 |m+1,l=>cok (cnd (fun s=>decide (s.ps<n)) ((lf fun s=>((),bif s.is [97,99,116,111,114]&&Nat.beq l.length 8 then s.fail 5 else s)).bnd fun _=>(snoc (lr f q) l).bnd (cH n f q m)) (.ret l)) (.ret l)
def jO (tk:List Tk)(en:Int)(f q:Nat):Option (List Ac×Int×Int):=match cH tk.length f q q [] ⟨tk,0,en,0,0,0,0,[]⟩with
 |none=>none
 |some (l,s)=>some (bif !s.ok then([],s.aT,s.er)else(l,0,0))
end
end Go.Ab
end
section
namespace Go.Ab
open Go
set_option maxRecDepth 100000
noncomputable section
def Va.r (v:Va):ew:=⟨v.k,v.n,v.s,v.I.map iE,v.L.map .str⟩
def Va.e (v:Va):Da:=v.r.e
def No.r (n:No):b6:=⟨n.op,n.name,n.v.k,n.v.n,n.v.s,n.v.I.map iE,n.v.L.map .str,n.kids.map iE⟩
def No.e (n:No):Da:=n.r.e
def Pa.r (p:Pa):fi:=⟨p.name,p.kind⟩
def Pa.e (p:Pa):Da:=p.r.e
def Fe.r (f:Fe):eu:=⟨f.name,f.kind,f.init.k,f.init.n,f.init.s,f.init.I.map iE,f.init.L.map .str⟩
def Fe.e (f:Fe):Da:=f.r.e
def Me.r (m:Me):dw:=⟨m.name,m.params.map Pa.e,m.result,m.nodes.map No.e⟩
def Me.e (m:Me):Da:=m.r.e
def Ac.r (a:Ac):bY:=⟨a.name,a.fields.map Fe.e,a.methods.map Me.e⟩
def Ac.e (a:Ac):Da:=a.r.e
def Tk.r (t:Tk):bo:=⟨t.k,t.s,t.n,t.a⟩
def Tk.e (t:Tk):Da:=t.r.e
theorem Vr (n:Va)(K:ew→R):cC n.e K=K n.r:=rfl
theorem VG (n:No)(K:b6→R):ei n.e K=K n.r:=rfl
theorem VB (n:Fe)(K:eu→R):dq n.e K=K n.r:=rfl
theorem VF (n:Me)(K:dw→R):fI n.e K=K n.r:=rfl
theorem VA (n:Ac)(K:bY→R):bR n.e K=K n.r:=rfl
theorem xA (t:Tk)(K:bo→R):aL t.e K=K t.r:=rfl
theorem dI (i:Int)(K:Int→R):ar .i64 (iE i) K=K i:=rfl
theorem iI (s:List Nat)(K:List Nat→R):cr (Da.str s) K=K s:=rfl
def PS.A (s:PS):bi:=⟨s.tk.map Tk.e,s.ps,s.en,s.aT,s.er,s.ne,s.tt,s.nd.length,s.nd.map No.e⟩
def PS.B (s:PS):bw:=⟨s.tk.map Tk.e,s.ps,s.en,s.aT,s.er,s.ne,s.tt,s.nd.map No.e⟩
theorem bP (c:bi)(K:bi→R):av c.hp K=K c:=rfl
theorem eX (c:bw)(K:bw→R):aK c.hp K=K c:=rfl
theorem dy {n b:Nat}(h:n<1000000001)(hb:b≤1000):eG n b=true:=by
 unfold eG;rw[lβ,Nat.ble_eq,Nat.ble_eq];constructor
 ·calc (2*n+192)*b≤(2*1000000001+192)*1000:=Nat.mul_le_mul (by omega) hb
   _≤281474976710656:=by decide
 ·omega
theorem aO {c m:Nat}(h:c+1≤m):∃k,m=k+1∧c≤k:=⟨m - 1,by omega,by omega⟩
theorem ue {α:Type}(p:α→Bool):∀s:List α,(match s.findIdx? (fun c=>!p c)with|some j=>j|none=>s.length)=(s.takeWhile p).length
 |[]=>rfl
 |x::r=>by
  rw[qγ,List.takeWhile_cons];have ih:=ue p r;cases p x
  ·rfl
  ·simp only[Bool.not_true,Bool.false_eq_true,if_false,if_true,List.length_cons];rw[←ih];cases r.findIdx? fun c=>!p c<;>rfl
end
end Go.Ab
end
section
namespace Go.Ab
open Go
set_option maxRecDepth 100000
noncomputable section
theorem pb {m:Nat}(c:Int)(hm:1≤m):evFn lay0.tab m 69 [.p (.int .u8 c)] []=some (.p (.bool (eM c)),[]):=by
 obtain⟨m,rfl,-⟩:=aO hm;apply Ke m c;simp only[uC,jL,zS,OP,Bool.and_true,eM]
theorem xT {m:Nat}(c:Int)(hm:1≤m):evFn lay0.tab m 78 [.p (.int .u8 c)] []=some (.p (.bool (I4 c)),[]):=by
 obtain⟨m,rfl,-⟩:=aO hm;apply H4 m c;unfold qU md I4;cases be 97 c<;>cases be c 122<;>cases be 65 c<;>cases be c 90<;>cases eqI c 95<;>rfl
theorem JQ {m:Nat}(c:Int)(hm:1≤m):evFn lay0.tab m 91 [.p (.int .u8 c)] []=some (.p (.bool (Nu c)),[]):=by
 obtain⟨m,rfl,-⟩:=aO hm;apply Kf m c;simp only[uD,jL,zS,OP,Bool.and_true,Nu]
theorem JT {m:Nat}(c:Int)(hm:2≤m):evFn lay0.tab m 79 [.p (.int .u8 c)] []=some (.p (.bool (F5 c)),[]):=by
 replace hm:=aO hm;obtain⟨m,rfl,hm⟩:=hm;apply Ki m c;simp only[uG,aa (xT c hm),aa (pb c hm),aE,aw,aM,jL,zS,TF,Bool.or_false,F5]
def AH (c:Int):Bool:=!eqI c 10
theorem JR {m:Nat}(c:Int)(hm:1≤m):evFn lay0.tab m 68 [.p (.int .u8 c)] []=some (.p (.bool (AH c)),[]):=by
 replace hm:=aO hm;obtain⟨m,rfl,hm⟩:=hm;apply Kg m c;simp only[uE,jL,zS,AH]
theorem Nf (k:Nat):Int.ofNat k=(k:Int):=rfl
theorem N6 {m:Nat}(s:List Nat)(hm:s.length+3≤m)(hl:s.length<lI):evFn lay0.tab m 67 [.p (.str s),.p (.fn 79 [])] []=some (.p (.int .i64 (dY F5 s)),[]):=by
 replace hm:=aO hm;obtain⟨m,rfl,hm⟩:=hm;apply Oo m s;unfold zi dY;refine(nh s (fun q i=>m0 _ m _ q (s,i)) (fun c:Nat=>!F5 (c:Int)) (fun i=>some (.p (.int .i64 i),[])) (some (.p (.int .i64 s.length),[])) (fun q i hi=>?_) (fun q=>?_) (by omega)).trans ?_
 ·rw[uP];simp only[jU,DO (show((i:Int)<(s.length:Int)) by omega),aV,nv (show(0:Int)≤(i:Int) by omega),cond_true,Int.toNat_natCast,lε hi,fX,wS (show i<lI by omega),Nf,aa (JT (m:=m) _ (by omega)),aE,aw,aM];cases F5 (s[i]:Int)<;>rfl
 ·rw[uP];simp only[jU,Fi,aU]
 ·rw[←ue];cases s.findIdx? fun c:Nat=>!F5 (c:Int)<;>rfl
theorem N4 {m:Nat}(s:List Nat)(hm:s.length+3≤m)(hl:s.length<lI):evFn lay0.tab m 67 [.p (.str s),.p (.fn 69 [])] []=some (.p (.int .i64 (dY eM s)),[]):=by
 replace hm:=aO hm;obtain⟨m,rfl,hm⟩:=hm;apply Om m s;unfold zg dY;refine(nh s (fun q i=>mY _ m _ q (s,i)) (fun c:Nat=>!eM (c:Int)) (fun i=>some (.p (.int .i64 i),[])) (some (.p (.int .i64 s.length),[])) (fun q i hi=>?_) (fun q=>?_) (by omega)).trans ?_
 ·rw[uN];simp only[jS,DO (show((i:Int)<(s.length:Int)) by omega),aV,nv (show(0:Int)≤(i:Int) by omega),cond_true,Int.toNat_natCast,lε hi,fX,wS (show i<lI by omega),Nf,aa (pb (m:=m) _ (by omega)),aE,aw,aM];cases eM (s[i]:Int)<;>rfl
 ·rw[uN];simp only[jS,Fi,aU]
 ·rw[←ue];cases s.findIdx? fun c:Nat=>!eM (c:Int)<;>rfl
theorem N5 {m:Nat}(s:List Nat)(hm:s.length+3≤m)(hl:s.length<lI):evFn lay0.tab m 67 [.p (.str s),.p (.fn 68 [])] []=some (.p (.int .i64 (dY AH s)),[]):=by
 replace hm:=aO hm;obtain⟨m,rfl,hm⟩:=hm;apply On m s;unfold zh dY;refine(nh s (fun q i=>mZ _ m _ q (s,i)) (fun c:Nat=>!AH (c:Int)) (fun i=>some (.p (.int .i64 i),[])) (some (.p (.int .i64 s.length),[])) (fun q i hi=>?_) (fun q=>?_) (by omega)).trans ?_
 ·rw[uO];simp only[jT,DO (show((i:Int)<(s.length:Int)) by omega),aV,nv (show(0:Int)≤(i:Int) by omega),cond_true,Int.toNat_natCast,lε hi,fX,wS (show i<lI by omega),Nf,aa (JR (m:=m) _ (by omega)),aE,aw,aM];cases AH (s[i]:Int)<;>rfl
 ·rw[uO];simp only[jT,Fi,aU]
 ·rw[←ue];cases s.findIdx? fun c:Nat=>!AH (c:Int)<;>rfl
theorem ky {m:Nat}(s:List Nat)(hm:1≤m):evFn lay0.tab m 47 [.p (.str s)] []=some (.p (.bool (E7 s)),[]):=by
 replace hm:=aO hm;obtain⟨m,rfl,hm⟩:=hm;apply zE m s;simp only[kK,jL,zS,TF,E7,List.any_cons,List.any_nil,Bool.or_false]
theorem F9 {m:Nat}(s:List Nat)(hm:s.length+4≤m)(hl:s.length<lI):evFn lay0.tab m 46 [.p (.str s)] []=some (.p (.int .i64 (fo s)),[]):=by
 replace hm:=aO hm;obtain⟨m,rfl,hm⟩:=hm;apply Ou m s;unfold zl fo;cases s with
 |nil=>rfl
 |cons c r=>
  simp only[show cM (c::r) []=false from rfl,aU,show be 0 0=true from rfl,cond_true,Int.toNat_zero,List.getElem?_cons_zero,fX,Nf,aa (xT (m:=m) _ (by omega)),aa (N6 (m:=m) _ hm hl),aE,aw,aP,aM,List.headD_cons];cases I4 (c:Int)<;>rfl
theorem HF {m:Nat}(s:List Nat)(hm:50≤m):evFn lay0.tab m 16 [.p (.str s)] []=some (.p (.bool (G2 s)),[]):=by
 replace hm:=aO hm;obtain⟨m,rfl,hm⟩:=hm;apply H1 m s;by_cases h:s.length≤32
 ·simp only[mX,aa (F9 (m:=m) s (by omega) (by unfold lI;omega)),aa (ky (m:=m) s (by omega)),aE,aw,aP,aM,jL,UL,OP,G2]
 ·have:be (s.length:Int) 32=false:=UD (by omega);simp only[mX,G2,this,aU,Bool.false_and,Bool.and_false];cases cM s []<;>rfl
theorem xf {m:Nat}(s p:List Nat)(hm:1≤m):evFn lay0.tab m 96 [.p (.str s),.p (.str p)] []=some (.p (.bool (nz s p)),[]):=by
 replace hm:=aO hm;obtain⟨m,rfl,hm⟩:=hm;apply xv m s p;unfold jE nz;rw[List.drop_zero,show Int.toNat (↑(List.length p)) - 0=p.length by omega];by_cases h:p.length≤s.length
 ·rw[nv (show(p.length:Int)≤s.length by omega),aV,aV,jL,zS]
 ·rw[UD (show ¬(p.length:Int)≤s.length by omega),aU,GA,qβ];intro e;have:=congrArg List.length e;rw[mδ]at this;omega
theorem oZ {m:Nat}(s p:List Nat)(hm:2≤m):evFn lay0.tab m 66 [.p (.str s),.p (.str p)] []=some (.p (.bool (nz s p)),[]):=by
 replace hm:=aO hm;obtain⟨m,rfl,hm⟩:=hm;apply zC m s p;simp only[kI,aa (xf s p hm),aE,aw,aM,jL,zS]
theorem U0 (m:Nat)(s:List Nat)(c:Int):evFn lay0.tab (m+1) 95 [.p (.str s),.p (.int .u8 c)] []=nj [.str s,.int .u8 c]:=by kernel_rfl
theorem pa {m:Nat}(s:List Nat)(c:Nat)(hc:c<256)(hm:2≤m):evFn lay0.tab m 65 [.p (.str s),.p (.int .u8 (c:Int))] []=some (.p (.int .i64 (CI s c)),[]):=by
 replace hm:=aO hm;obtain⟨m,rfl,hm⟩:=hm;replace hm:=aO hm;obtain⟨m,rfl,hm⟩:=hm;apply zD (m+1) s c;have h:evFn lay0.tab (m+1) 95 [.p (.str s),.p (.int .u8 (c:Int))] []=some (.p (.int .i64 (CI s c)),[]):=by
  rw[U0];simp only[nj,nv (show(0:Int)≤c by omega),nv (show(c:Int)≤255 by omega),Bool.and_self,cond_true]
 simp only[kJ,aa h,aE,aP,aM]
theorem GP (s:List Nat)(c:Nat):be 0 (CI s c)=s.any (fun b=>Nat.beq b c):=by
 unfold CI;have e:(fun b:Nat=>eqI (Int.ofNat b) (c:Int))=fun b=>Nat.beq b c:=by
  funext b;rw[dJ,EB,mβ,lγ,lγ]
  exact⟨fun h=>Int.ofNat.inj h,fun h=>congrArg Int.ofNat h⟩
 rw[e];cases h:s.findIdx? fun b=>Nat.beq b c with
 |none=>
  rw[List.findIdx?_eq_none_iff]at h;symm;rw[show be 0 (-1)=false from rfl,List.any_eq_false];intro x hx;rw[h x hx];simp
 |some i=>
  obtain⟨hi,hp,-⟩:=qδ.1 h;rw[show be 0 (match (some i:Option Nat)with|some i=>(i:Int)|none=> -1)=true from nv (by show(0:Int)≤(i:Int);omega)];symm;rw[List.any_eq_true];exact⟨_,mω hi,hp⟩
theorem xR {m:Nat}(s:List Nat)(hb:∀c∈s,c<256)(hm:20≤m):evFn lay0.tab m 72 [.p (.str s)] []=some (.p (.int .i64 (rT s)),[]):=by
 replace hm:=aO hm;obtain⟨m,rfl,hm⟩:=hm;apply H0 m s;unfold qR;replace hm:∃k,m=k+7∧12≤k:=⟨m - 7,by omega,by omega⟩;obtain⟨m,rfl,hm⟩:=hm
 have hp:=fun p=>oZ (m:=m+7) s p (by omega)
 simp only[zp,ji,show ∀a b,ao .i64 ((a:Int)+b)=ao .i64 (a+b)from fun _ _=>rfl,
  show ao .i64 (0+1)=1 from rfl,show ao .i64 (1+1)=2 from rfl,show ao .i64 (2+1)=3 from rfl,show ao .i64 (3+1)=4 from rfl,show ao .i64 (4+1)=5 from rfl,show ao .i64 (5+1)=6 from rfl,
  show br 0 6=true from rfl,show br 1 6=true from rfl,show br 2 6=true from rfl,show br 3 6=true from rfl,show br 4 6=true from rfl,show br 5 6=true from rfl,show br 6 6=false from rfl,
  show be 0 0=true from rfl,show be 0 1=true from rfl,show be 0 2=true from rfl,show be 0 3=true from rfl,show be 0 4=true from rfl,show be 0 5=true from rfl,aV,aU,cond_true,
  show((6:Nat):Int)=6 from rfl,show Int.toNat 0=0 from rfl,show Int.toNat 1=1 from rfl,show Int.toNat 2=2 from rfl,show Int.toNat 3=3 from rfl,show Int.toNat 4=4 from rfl,show Int.toNat 5=5 from rfl,
  List.getElem?_cons_zero,List.getElem?_cons_succ,fX,iI,aa (hp _),aE,aw,aM,TW]
 unfold rT twoS;simp only[List.any_cons,List.any_nil,Bool.or_false];rw[TV];cases h:(nz s [61,61]||(nz s [33,61]||(nz s [60,61]||(nz s [62,61]||(nz s [38,38]||nz s [124,124])))))
 ·simp only[Bool.false_eq_true,if_false,cond_false];cases s with
  |nil=>rfl
  |cons c r=>
   simp only[show cM (c::r) []=false from rfl,Bool.not_false,aV,List.getElem?_cons_zero,fX,Nf,aa (pa (m:=m+7) _ c (hb c (by simp)) (by omega)),aE,aP,aM,GP];rw[show(fun b=>Nat.beq b c)=(Nat.beq c)from by funext b;rw[EB,EB];simp only[decide_eq_decide];exact eq_comm];show iL (oneS.any (Nat.beq c)) _ _=_;cases oneS.any (Nat.beq c)<;>rfl
 ·rfl
theorem Bm {m:Nat}(s:List Nat)(hb:∀c∈s,c<256)(hm:21≤m):evFn lay0.tab m 115 [.p (.str s)] []=some (.p (.bool (Te s)),[]):=by
 replace hm:=aO hm;obtain⟨m,rfl,hm⟩:=hm;apply BH m s;simp only[lL,aa (xR s hb hm),aE,aP,aM,jL,zS,OP,Te,Bool.and_true]
theorem xQ {m:Nat}(t:Tk)(hb:∀c∈t.s,c<256)(hm:51≤m):evFn lay0.tab m 99 [.p t.e] []=some (.p (.bool (ls t)),[]):=by
 replace hm:=aO hm;obtain⟨m,rfl,hm⟩:=hm;apply HZ m t.r;unfold qQ jh;simp only[show t.r.Kind=t.k from rfl,show t.r.Text=t.s from rfl,show t.r.Num=t.n from rfl,aa (HF (m:=m) t.s hm),aa (ky (m:=m) t.s (by omega)),aa (Bm (m:=m) t.s hb (by omega)),aE,aw,aM];unfold ls;cases eqI t.k 1<;>cases eqI t.k 2<;>cases eqI t.k 3<;>cases eqI t.k 4<;>cases eqI t.k 5<;>simp only[jL,zS,aV,aU,cond_true,cond_false]
end
end Go.Ab
end
section
namespace Go.Ab
open Go
set_option maxRecDepth 100000
noncomputable section
def gn (c:Nat):Int:=bif eM c then(c:Int) - 48 else bif be 97 c&&be c 102 then(c:Int) - 87 else -1
theorem yH (c:Nat):gn c= -1∨0≤gn c∧gn c<16:=by
 unfold gn eM;simp only[j1];by_cases h1:(48:Int)≤c<;>by_cases h2:(c:Int)≤57<;>by_cases h3:(97:Int)≤c<;>by_cases h4:(c:Int)≤102<;>simp[h1,h2,h3,h4]<;>omega
theorem Vy {n:Int}(h0:0≤n)(h1:n<256):ao .u8 n=n:=by
 obtain⟨k,rfl⟩:=Int.eq_ofNat_of_zero_le h0;have:Nat.blt k 256=true:=by rw[Nat.blt_eq];omega
 show ao .u8 (Int.ofNat k)=_;simp only[ao,this,cond_true];rfl
theorem HH {m:Nat}(c:Nat)(hm:2≤m):evFn lay0.tab m 114 [.p (.int .u8 (c:Int))] []=some (.p (.int .i64 (gn c)),[]):=by
 replace hm:=aO hm;obtain⟨m,rfl,hm⟩:=hm;apply H5 m c;simp only[qV,aa (pb (m:=m) c hm),aE,aw,aM];unfold gn;cases h:eM c with
 |true=>
  simp only[eM,j1,lβ,lγ]at h;rw[aV,cond_true,Vy (by omega) (by omega),gT (by omega) (by omega)]
 |false=>
  rw[aU,cond_false];cases h1:be 97 (c:Int)<;>cases h2:be (c:Int) 102<;>simp only[aV,aU,Bool.and_false,Bool.false_and,Bool.and_true,cond_false,cond_true];simp only[j1,lγ]at h1 h2;rw[Vy (by omega) (by omega),gT (n:=(c:Int) - 97) (by omega) (by omega),gT (by omega) (by omega)];rw[show(c:Int) - 97+10=(c:Int) - 87 by omega]
def PD:List Nat→Nat×Nat
 |_::c::r=>bif Nat.beq c 34||Nat.beq c 92 then(c,2)else
  match r with
  |a::b::_=>bif Nat.beq c 120&&(be 0 (gn a)&&be 0 (gn b))then((16*gn a+gn b).toNat,4)else(0,0)
  |_=>(0,0)
 |_=>(0,0)
theorem TN (a b:Nat):eqI (a:Int) (b:Int)=Nat.beq a b:=rfl
theorem U4:((List.range 16).all fun a=>(List.range 16).all fun b=>eqI (ao .u8 (ao .i64 ↑(BitVec.toNat (BitVec.ofInt (IntKind.bits .i64) (ao .i64 ((a:Int)*2 ^ min (Int.toNat 4) (IntKind.bits .i64))) ||| BitVec.ofInt (IntKind.bits .i64) (b:Int))))) (16*(a:Int)+b))=true:=by decide+kernel
theorem HG {m:Nat}(s:List Nat)(hm:3≤m):evFn lay0.tab m 98 [.p (.str s)] []=some (.tup [.p (.int .u8 ((PD s).1:Int)),.p (.int .i64 ((PD s).2:Int))],[]):=by
 replace hm:=aO hm;obtain⟨m,rfl,hm⟩:=hm;apply H3 m s;have nb:=fun c=>HH (m:=m) c hm
 unfold qT;rcases s with _|⟨x,_|⟨c,r⟩⟩
 ·rfl
 ·rfl
 ·have l2:be 2 ((List.length (x::c::r):Nat):Int)=true:=nv (by simp only[List.length_cons];omega);simp only[l2,aV,show be 0 1=true from rfl,cond_true,Int.toNat_one,List.getElem?_cons_succ,List.getElem?_cons_zero,fX,Nf,show((34:Int))=((34:Nat):Int)from rfl,show((92:Int))=((92:Nat):Int)from rfl,TN];unfold PD;cases h1:Nat.beq c 34
  ·cases h2:Nat.beq c 92
   ·simp only[h1,h2,aU,Bool.or_false,cond_false];unfold mc;rcases r with _|⟨a,_|⟨b,t⟩⟩
    ·rfl
    ·rfl
    ·have l4:br ((List.length (x::c::a::b::t):Nat):Int) 4=false:=Bh (by simp only[List.length_cons];omega);simp only[l4,aU,show be 0 1=true from rfl,show be 0 2=true from rfl,show be 0 3=true from rfl,cond_true,Int.toNat_one,show Int.toNat 2=2 from rfl,show Int.toNat 3=3 from rfl,List.getElem?_cons_succ,List.getElem?_cons_zero,fX,Nf,show((120:Int))=((120:Nat):Int)from rfl,TN,aa (nb _),aE,aP,aM];cases h3:Nat.beq c 120
     ·rfl
     ·simp only[h3,Bool.not_true,aU,Bool.true_and];rcases yH a with ha|⟨ha,ha'⟩
      ·rw[ha];rfl
      ·rcases yH b with hb|⟨hb,hb'⟩
       ·rw[hb];simp only[Bh (show ¬gn a<0 by omega),aU];rw[show be 0 (-1)=false from rfl,Bool.and_false];rfl
       ·simp only[Bh (show ¬gn a<0 by omega),Bh (show ¬gn b<0 by omega),aU,nv ha,nv hb,Bool.and_true,cond_true];obtain⟨i,hi⟩:=Int.eq_ofNat_of_zero_le ha;obtain⟨j,hj⟩:=Int.eq_ofNat_of_zero_le hb;have hi16:i<16:=by omega
        have hj16:j<16:=by omega
        rw[hi,hj];have:=mγ.1 (mγ.1 U4 i (List.mem_range.2 hi16)) j (List.mem_range.2 hj16);rw[dJ,lγ]at this;rw[this];congr 5;all_goals omega
   ·have:c=92:=lζ h2;subst this;rfl
  ·have:c=34:=lζ h1;subst this;rfl
abbrev LR:=Tk×Int×Int
def rB (e:Int):LR:=(tk0,0,e)
def rU:List Nat→List Nat→Nat→LR
 |[],_,_=>rB 13
 |c::r,out,i=>
  bif Nu c then rU r (out++[c]) (i+1)else
  bif Nat.beq c 34 then(bif br 64 (out.length:Int)then rB 5 else(⟨4,out,0,0⟩,((i+1:Nat):Int),0))else
  bif Nat.beq c 92 then
   match r with
   |d::r1=>bif Nat.beq d 34||Nat.beq d 92 then rU r1 (out++[d]) (i+2)else
    match r1 with
    |a::b::r2=>bif Nat.beq d 120&&(be 0 (gn a)&&be 0 (gn b))then rU r2 (out++[(16*gn a+gn b).toNat]) (i+4)else rB 13
    |_=>rB 13
   |[]=>rB 13
  else rB 13
def Rj (c:Nat):Da:= .int .u8 (c:Int)
theorem B3:∀(l:List Nat),(∀c∈l,c<256)→eB (l.map Rj)=some l
 |[],_=>rfl
 |c::l,h=>by
  have hc:c<256:=h c (by simp);have ih:=B3 l fun x hx=>h x (by simp[hx])
  show(match eB (l.map Rj)with|some s=>some ((c:Int).toNat % 256::s)|none=>none)=_;rw[ih];simp only[Int.toNat_natCast,Nat.mod_eq_of_lt hc]
def LR.d (r:LR):D:= .tup [.p r.1.e,.p (.int .i64 r.2.1),.p (.int .i64 r.2.2)]
theorem gb {s:List Nat}{i:Nat}{c:Nat}{r:List Nat}(h:s.drop i=c::r):i<s.length∧s[i]?=some c∧s.drop (i+1)=r:=by
 have hi:i<s.length:=by
  by_cases h1:i<s.length
  ·exact h1
  ·rw[List.drop_eq_nil_of_le (by omega)]at h;cases h
 rw[mα hi]at h;injection h with h1 h2;exact⟨hi,by rw[lε hi,h1],h2⟩
theorem nk (s:List Nat)(i:Nat):List.take (s.length - i) (List.drop i s)=s.drop i:=by
 rw[mξ];rw[lυ];omega
theorem NN {m:Nat}(s:List Nat)(hb:∀c∈s,c<256)(hl:s.length<1000000)(hm:3≤m):∀(k:Nat) (t out:List Nat) (i q:Nat),t.length≤k→s.drop i=t→out.length≤i→(∀c∈out,c<256)→k<q→
  L_ztext_1 (bu lay0.tab m) m (fun(i23,i24,i25,s26,l27)=>some ((.tup [(.p (.agg [(.int .i64 i25),(.str s26),(.int .i64 0),(.int .i64 0)])),(.p (.int .i64 i23)),(.p (.int .i64 i24))]),[]))
   (fun(s28,n29,i30,s31,l32)=>some ((.tup [(.p (.agg [(.int .i64 0),(.str []),(.int .i64 0),(.int .i64 0)])),(.p (.int .i64 0)),(.p (.int .i64 13))]),[])) q (s,out.length,(i:Int),[],out.map Rj)=some ((rU t out i).d,[]):=by
 intro k;induction k with
 |zero=>
  intro t out i q ht hs ho hob hq;obtain⟨q,rfl⟩:∃j,q=j+1:=⟨q - 1,by omega⟩
  obtain rfl:t=[]:=by cases t<;>simp_all
  have hi:s.length≤i:=by
   by_cases h:i<s.length
   ·rw[mα h]at hs;cases hs
   ·omega
  rw[uR];simp only[im,Bh (show ¬(i:Int)<(s.length:Int) by omega),aU];rfl
 |succ k ih=>
  intro t out i q ht hs ho hob hq;obtain⟨q,rfl⟩:∃j,q=j+1:=⟨q - 1,by omega⟩
  rw[uR];cases t with
  |nil=>
   have hi:s.length≤i:=by
    by_cases h:i<s.length
    ·rw[mα h]at hs;cases hs
    ·omega
   simp only[im,Bh (show ¬(i:Int)<(s.length:Int) by omega),aU];rfl
  |cons c r=>
   obtain⟨hi,hg,hr⟩:=gb hs;have hcb:∀x∈c::r,x<256:=fun x hx=>hb x (mυ (hs▸hx))
   have hlen:i+(c::r).length=s.length:=by
    have:=congrArg List.length hs;rw[lυ]at this;omega
   have htk:List.take (s.length - i) (c::r)=c::r:=by rw[←hs,nk]
   simp only[im,DO (show(i:Int)<(s.length:Int) by omega),aV,nv (show(0:Int)≤(i:Int) by omega),cond_true,Int.toNat_natCast,hg,fX,Nf,aa (JQ (m:=m) (c:Int) (by omega)),aE,aw,aM,lμ,Nat.beq_refl,hs,htk];have nx:∀(d:Nat) (j:Nat) (t':List Nat),d<256→s.drop (i+(j+1))=t'→t'.length≤k→
     L_ztext_1 (bu lay0.tab m) m (fun(i23,i24,i25,s26,l27)=>some ((.tup [(.p (.agg [(.int .i64 i25),(.str s26),(.int .i64 0),(.int .i64 0)])),(.p (.int .i64 i23)),(.p (.int .i64 i24))]),[]))
      (fun(s28,n29,i30,s31,l32)=>some ((.tup [(.p (.agg [(.int .i64 0),(.str []),(.int .i64 0),(.int .i64 0)])),(.p (.int .i64 0)),(.p (.int .i64 13))]),[])) q (s,List.length (out.map Rj++[Da.int .u8 (d:Int)]),((i+(j+1):Nat):Int),[],out.map Rj++[Da.int .u8 (d:Int)])=some ((rU t' (out++[d]) (i+(j+1))).d,[]):=by
    intro d j t' hd hd' ht';have:=ih t' (out++[d]) (i+(j+1)) q ht' hd' (by rw[lπ,List.length_singleton];omega) (fun x hx=>by rcases mη.1 hx with h|h;exact hob x h;simp only[List.mem_singleton]at h;omega) (by omega);rw[List.map_append]at this;rw[←this];simp[Rj]
   have big1:∀z,eG (out.length+List.length [Da.int .u8 z]) 1=true:=fun z=>dy (by simp only[List.length_singleton];omega) (by decide)
   unfold rU;cases hp:Nu c with
   |true=>
    simp only[aV,big1,cond_true];rw[wS (show i<lI by unfold lI;omega)];exact nx c 0 r (hcb c (by simp)) hr (by simp only[List.length_cons]at ht;omega)
   |false=>
    simp only[aU,cond_false,show((34:Int))=((34:Nat):Int)from rfl,show((92:Int))=((92:Nat):Int)from rfl,TN];cases h1:Nat.beq c 34 with
    |true=>
     simp only[h1,aV,cond_true];cases h2:br 64 (out.length:Int)
     ·simp only[aU,cond_false];have:List.take out.length (List.drop 0 (out.map Rj))=out.map Rj:=by
       rw[List.drop_zero,mξ (by rw[lμ];omega)]
      rw[this,B3 out hob,fX,wS (show i<lI by unfold lI;omega)];rfl
     ·rfl
    |false=>
     simp only[h1,aU,cond_false];cases h2:Nat.beq c 92 with
     |false=>rfl
     |true=>
      simp only[h2,aV,cond_true,nv (show(i:Int)≤(s.length:Int) by omega),aa (HG (m:=m) (c::r) hm),ba,jn,aE,aP,aM,big1];cases r with
      |nil=>rfl
      |cons d r1=>
       unfold PD;cases h3:(Nat.beq d 34||Nat.beq d 92)with
       |true=>
        simp only[h3,cond_true,show eqI ((2:Nat):Int) 0=false from rfl,aU];rw[show(i:Int)+((2:Nat):Int)=((i+1+1:Nat):Int) by omega,gT (by omega) (by omega)];exact nx d 1 r1 (hcb d (by simp)) (by have:=gb hr;exact this.2.2) (by simp only[List.length_cons]at ht;omega)
       |false=>
        simp only[h3,cond_false];rcases r1 with _|⟨a,_|⟨b,r2⟩⟩
        ·rfl
        ·rfl
        ·simp only[];cases h4:(Nat.beq d 120&&(be 0 (gn a)&&be 0 (gn b)))with
         |false=>rfl
         |true=>
          simp only[h4,cond_true,show eqI ((4:Nat):Int) 0=false from rfl,aU];simp only[lβ,j1,lγ]at h4;rw[show(i:Int)+((4:Nat):Int)=((i+(3+1):Nat):Int) by omega,gT (by omega) (by omega)];refine nx (16*gn a+gn b).toNat 3 r2 ?_ ?_ (by simp only[List.length_cons]at ht;omega)
          ·have ha:=yH a;have hb:=yH b;omega
          ·have e1:=gb hr;have e2:=gb e1.2.2;have e3:=gb e2.2.2;exact e3.2.2
end
end Go.Ab
end
section
namespace Go.Ab
open Go
set_option maxRecDepth 100000
noncomputable section
theorem N7 {m:Nat}(c:Nat)(r:List Nat)(hb:∀x∈c::r,x<256)(hl:(c::r).length<1000000)(hm:(c::r).length+10≤m):evFn lay0.tab m 71 [.p (.str (c::r))] []=some ((rU r [] 1).d,[]):=by
 replace hm:=aO hm;obtain⟨m,rfl,hm⟩:=hm;apply Ot m (c::r);unfold zk;have:=NN (m:=m) (c::r) hb hl (by omega) (c::r).length r [] 1 m (by simp) rfl (by simp) (by simp) (by omega);exact this
def SS (s:List Nat):Option Int:=match Lib.parseIntB 64 (Ts s)with| .ok v=>some v|_=>none
def Qj (s:List Nat):LR:=
 match SS (s.take (dY eM s))with
 |some v=>bif br 1 (dY eM s:Int)&&Nat.beq (s.headD 0) 48 then rB 13 else(⟨3,s.take (dY eM s),v,0⟩,(dY eM s:Int),0)
 |none=>rB 13
theorem U1 (m:Nat)(s:List Nat):evFn lay0.tab (m+1) 97 [.p (.str s),.p (.int .i64 10),.p (.int .i64 64)] []=rO 149 [.str s,.int .i64 10,.int .i64 64]:=by kernel_rfl
theorem A1 (p:Int→Bool)(s:List Nat):dY p s≤s.length:=by
 unfold dY;exact(List.takeWhile_sublist _).length_le
theorem HI {m:Nat}(s:List Nat)(h0:s≠[])(hl:s.length<1000000)(hm:s.length+10≤m):evFn lay0.tab m 70 [.p (.str s)] []=some ((Qj s).d,[]):=by
 replace hm:=aO hm;obtain⟨m,rfl,hm⟩:=hm;apply H6 m s;have hr:=A1 eM s;have e97:evFn lay0.tab m 97 [.p (.str (s.take (dY eM s))),.p (.int .i64 10),.p (.int .i64 64)] []=some (sH 149 (Lib.parseIntB 64 (Ts (s.take (dY eM s)))),[]):=by
  obtain⟨m,rfl,-⟩:=aO (show 0+1≤m by omega);rw[U1];simp only[rO];rw[nv (by show((List.take _ _).length:Int)≤_;rw[mδ];omega)];rfl
 unfold qW Qj SS;simp only[aa (N4 (m:=m) s (by omega) (by unfold lI;omega)),aE,aP,aM,nv (show(0:Int)≤(dY eM s:Int) by omega),nv (show(dY eM s:Int)≤(s.length:Int) by omega),aV,Int.toNat_natCast,List.drop_zero,Nat.sub_zero,aa e97];obtain⟨c,r,rfl⟩:∃c r,s=c::r:=by cases s with|nil=>exact absurd rfl h0|cons c r=>exact⟨c,r,rfl⟩
 cases hv:Lib.parseIntB 64 (Ts ((c::r).take (dY eM (c::r))))with
 |ok v=>
  simp only[sH,ba,jn,aM,PZ,aV,Ca,aE,aP,show be 0 0=true from rfl,cond_true,Int.toNat_zero,List.getElem?_cons_zero,fX,Nf,show((48:Int))=((48:Nat):Int)from rfl,TN,List.headD_cons];unfold me mf;simp only[nv (show(0:Int)≤(dY eM (c::r):Int) by omega),nv (show(dY eM (c::r):Int)≤((c::r).length:Int) by omega),aV,Int.toNat_natCast,List.drop_zero,Nat.sub_zero];cases br 1 (dY eM (c::r):Int)<;>cases Nat.beq c 48<;>rfl
 |_=>
  simp only[sH,ba,jn,aM,PZ,aU,Ca];rfl
theorem ND (s:List Nat):rT s≤s.length:=by
 unfold rT;cases h:twoS.any (nz s)with
 |true=>
  rw[cond_true];obtain⟨p,hp,h⟩:=List.any_eq_true.1 h;unfold nz at h;rw[GA,lγ]at h;have h2:p.length=2:=by
   simp only[twoS,lω,List.not_mem_nil,or_false]at hp;rcases hp with rfl|rfl|rfl|rfl|rfl|rfl<;>rfl
  have:=congrArg List.length h;rw[mδ]at this;omega
 |false=>
  rw[cond_false];cases s with
  |nil=>exact Nat.le_refl 0
  |cons c r=>
   simp only[List.length_cons];cases oneS.any (Nat.beq c)<;>simp
def je:List Nat→LR
 |[]=>rB 0
 |c::r=>bif br 0 (fo (c::r):Int)then
   (bif br 32 (fo (c::r):Int)then rB 5 else bif E7 ((c::r).take (fo (c::r)))then(⟨2,(c::r).take (fo (c::r)),0,0⟩,(fo (c::r):Int),0)else(⟨1,(c::r).take (fo (c::r)),0,0⟩,(fo (c::r):Int),0))
  else bif eM c then Qj (c::r)else bif Nat.beq c 34 then rU r [] 1 else
   bif eqI (rT (c::r)) 0 then rB 13 else(⟨5,(c::r).take (rT (c::r)),0,0⟩,(rT (c::r):Int),0)
theorem Hw (s:List Nat):fo s≤s.length:=by
 unfold fo;cases I4 ((s.headD 0:Nat):Int)
 ·exact Nat.zero_le _
 ·exact A1 _ _
theorem JS {m:Nat}(c:Nat)(r:List Nat)(hb:∀x∈c::r,x<256)(hl:(c::r).length<1000000)(hm:(c::r).length+30≤m):evFn lay0.tab m 41 [.p (.str (c::r))] []=some ((je (c::r)).d,[]):=by
 replace hm:=aO hm;obtain⟨m,rfl,hm⟩:=hm;apply Kh m (c::r);have hw:=Hw (c::r);have hs:=ND (c::r);unfold uF je;simp only[aa (F9 (m:=m) (c::r) (by omega) (by unfold lI;omega)),aE,aP,aM,aw,nv (show(0:Int)≤(fo (c::r):Int) by omega),nv (show(fo (c::r):Int)≤((c::r).length:Int) by omega),aV,Int.toNat_natCast,List.drop_zero,Nat.sub_zero,aa (ky (m:=m) _ (by omega)),show be 0 0=true from rfl,cond_true,Int.toNat_zero,List.getElem?_cons_zero,fX,Nf,aa (pb (m:=m) _ (by omega)),show((34:Int))=((34:Nat):Int)from rfl,TN,aa (HI (m:=m) (c::r) (by simp) hl (by omega)),aa (N7 (m:=m) c r hb hl (by omega)),aa (xR (m:=m) (c::r) hb (by omega)),nv (show(0:Int)≤(rT (c::r):Int) by omega),nv (show(rT (c::r):Int)≤((c::r).length:Int) by omega)];unfold oh;have q:∀a:LR,(aY a.d fun r16=>ae r16 fun d17 r18=>dP d17 fun x19=>aL x19 fun u20=>ae r18 fun d21 r22=>dP d21 fun x23=>ar .i64 x23 fun i24=>ae r22 fun d25 r26=>dP d25 fun x27=>ar .i64 x27 fun i28=>aA r26<|aA ([]:List Ob)<|some ((.tup [(.p u20.e),(.p (.int .i64 i24)),(.p (.int .i64 i28))]),[]))=some (a.d,[]):=fun a=>rfl
 simp only[q];cases br 0 (fo (c::r):Int)with
 |true=>
  cases br 32 (fo (c::r):Int)with
  |true=>rfl
  |false=>cases E7 ((c::r).take (fo (c::r)))<;>rfl
 |false=>
  cases eM (c:Int)with
  |true=>rfl
  |false=>
   cases Nat.beq c 34 with
   |true=>rfl
   |false=>cases eqI (rT (c::r):Int) 0<;>rfl
def KP (c:Nat):Bool:=[32,9,10,13].any fun b=>Nat.beq b c
def qH:Bool→List Nat→Nat
 |_,[]=>0
 |true,c::r=>qH (AH c) r+1
 |false,c::r=>bif KP c then qH false r+1 else bif nz (c::r) [47,47]then qH true r+1 else 0
theorem wR:∀(b:Bool) (s:List Nat),qH b s≤s.length
 |b,[]=>by cases b<;>exact Nat.le_refl 0
 |true,c::r=>by have:=wR (AH c) r;simp only[qH,List.length_cons];omega
 |false,c::r=>by
  have h1:=wR false r;have h2:=wR true r;simp only[qH,List.length_cons];cases KP c<;>cases nz (c::r) [47,47]<;>simp only[cond_true,cond_false]<;>omega
theorem Hj:∀s:List Nat,qH true s=dY AH s+qH false (s.drop (dY AH s))
 |[]=>rfl
 |c::r=>by
  unfold dY;rw[List.takeWhile_cons];cases h:AH c with
  |true=>
   simp only[if_true,List.length_cons,List.drop_succ_cons,qH,h];rw[Hj r];unfold dY;omega
  |false=>
   have hc:KP c=true:=by
    unfold AH at h;simp only[dJ,Bool.not_eq_false',lγ]at h;have:c=10:=by omega
    subst this;rfl
   simp only[Bool.false_eq_true,if_false,List.length_nil,List.drop_zero,qH,h,hc,cond_true];omega
theorem Jm {m:Nat}(s:List Nat)(hb:∀c∈s,c<256)(hl:s.length<1000000)(hm:s.length+6≤m):∀(k:Nat) (t:List Nat) (i q:Nat),t.length≤k→s.drop i=t→i≤s.length→k<q→
  L_zskip_1 (bu lay0.tab m) m (fun i16=>some ((.p (.int .i64 i16)),[])) (fun(s17,i18)=>some ((.p (.int .i64 i18)),[])) q (s,(i:Int))=some (.p (.int .i64 ((i+qH false t:Nat):Int)),[]):=by
 intro k;induction k with
 |zero=>
  intro t i q ht hs hi hq;obtain⟨q,rfl⟩:∃j,q=j+1:=⟨q - 1,by omega⟩
  obtain rfl:t=[]:=by cases t<;>simp_all
  have hi:s.length≤i:=by
   by_cases h:i<s.length
   ·rw[mα h]at hs;cases hs
   ·omega
  rw[uQ];simp only[ik,Bh (show ¬(i:Int)<(s.length:Int) by omega),aU];rfl
 |succ k ih=>
  intro t i q ht hs hi hq;obtain⟨q,rfl⟩:∃j,q=j+1:=⟨q - 1,by omega⟩
  rw[uQ];cases t with
  |nil=>
   have hi:s.length≤i:=by
    by_cases h:i<s.length
    ·rw[mα h]at hs;cases hs
    ·omega
   simp only[ik,Bh (show ¬(i:Int)<(s.length:Int) by omega),aU];rfl
  |cons c r=>
   obtain⟨hi',hg,hr⟩:=gb hs;have hc:c<256:=hb c (mυ (hs▸mι));have hlen:i+(c::r).length=s.length:=by
    have:=congrArg List.length hs;rw[lυ]at this;omega
   have htk:List.take (s.length - i) (c::r)=c::r:=by rw[←hs,nk]
   simp only[ik,DO (show(i:Int)<(s.length:Int) by omega),aV,nv (show(0:Int)≤(i:Int) by omega),cond_true,Int.toNat_natCast,hg,fX,Nf,aa (pa (m:=m) [32,9,10,13] c hc (by omega)),aE,aw,aP,aM,nv (show(i:Int)≤(s.length:Int) by omega),hs,htk,aa (oZ (m:=m) (c::r) [47,47] (by omega)),aa (N5 (m:=m) (c::r) (by omega) (by unfold lI;omega)),GP];show iL (KP c) _ _=_;unfold qH;cases h1:KP c with
   |true=>
    simp only[aV,cond_true];rw[wS (show i<lI by unfold lI;omega),ih r (i+1) q (by simp only[List.length_cons]at ht;omega) hr (by omega) (by omega)];congr 5;omega
   |false=>
    simp only[aU,cond_false];cases h2:nz (c::r) [47,47]with
    |false=>rfl
    |true=>
     simp only[aV,cond_true];have hrl:=A1 AH (c::r);have h47:AH c=true:=by
      unfold nz at h2;rw[GA,lγ]at h2;simp only[List.length_cons,List.length_nil,List.take_succ_cons]at h2;injection h2 with h2;rw[h2];rfl
     have hr1:1≤dY AH (c::r):=by
      unfold dY;rw[List.takeWhile_cons,h47];simp
     have e:(i:Int)+(dY AH (c::r):Int)=((i+dY AH (c::r):Nat):Int):=by omega
     rw[e,gT (by omega) (by omega),ih ((c::r).drop (dY AH (c::r))) (i+dY AH (c::r)) q (by rw[lυ];omega) (by rw[←hs,mν]) (by omega) (by omega)];have:=Hj (c::r);simp only[qH,h47]at this;congr 4;omega
theorem F8 {m:Nat}(s:List Nat)(hb:∀c∈s,c<256)(hl:s.length<1000000)(hm:s.length+7≤m):evFn lay0.tab m 40 [.p (.str s)] []=some (.p (.int .i64 (qH false s:Int)),[]):=by
 replace hm:=aO hm;obtain⟨m,rfl,hm⟩:=hm;apply Oq m s;unfold zj;have:=Jm (m:=m) s hb hl hm s.length s 0 m (Nat.le_refl _) rfl (Nat.zero_le _) (by omega);rw[Nat.zero_add]at this;exact this
def NJ:Nat→List Nat→Nat→List Tk→List Tk×Int×Int
 |0,_,_,_=>([],0,0)
 |_+1,[],_,acc=>(acc,0,0)
 |q+1,c::r,i,acc=>
  bif !eqI (je (c::r)).2.2 0 then([],(i:Int),(je (c::r)).2.2)else
   NJ q ((c::r).drop ((je (c::r)).2.1.toNat+qH false ((c::r).drop (je (c::r)).2.1.toNat))) (i+((je (c::r)).2.1.toNat+qH false ((c::r).drop (je (c::r)).2.1.toNat))) (acc++[{(je (c::r)).1 with a:=(i:Int)}])
def lH (s:List Nat):List Tk×Int×Int:=bif br 6000 (s.length:Int)then([],0,5)else NJ (s.length+1) (s.drop (qH false s)) (qH false s) []
end
end Go.Ab
end
section
namespace Go.Ab
open Go
set_option maxRecDepth 100000
noncomputable section
def By (s:List Nat):Prop:=∀c∈s,c<256
theorem By.take {s:List Nat}(h:By s)(n:Nat):By (s.take n):=fun c hc=>h c (qα hc)
theorem By.drop {s:List Nat}(h:By s)(n:Nat):By (s.drop n):=fun c hc=>h c (mυ hc)
theorem By.tail {s:List Nat}{c:Nat}(h:By (c::s)):By s:=fun x hx=>h x (by simp[hx])
theorem By.snoc {s:List Nat}{c:Nat}(h:By s)(hc:c<256):By (s++[c]):=fun x hx=>by
 rcases mη.1 hx with h1|h1
 ·exact h x h1
 ·simp only[List.mem_singleton]at h1;omega
theorem Tg:∀(k:Nat) (t out:List Nat) (i:Nat),t.length≤k→By t→By out→By (rU t out i).1.s∧((rU t out i).2.2=0→(i:Int)<(rU t out i).2.1∧(rU t out i).2.1≤((i+t.length:Nat):Int)):=by
 intro k;induction k with
 |zero=>
  intro t out i ht hb ho;obtain rfl:t=[]:=by cases t<;>simp_all
  exact⟨fun c hc=>(by cases hc),fun h=>(by cases h)⟩
 |succ k ih=>
  intro t out i ht hb ho;cases t with
  |nil=>exact⟨fun c hc=>(by cases hc),fun h=>(by cases h)⟩
  |cons c r=>
   have er:∀e,By (rB e).1.s:=fun e c hc=>by cases hc
   have hc:c<256:=hb c (by simp);simp only[List.length_cons]at ht ⊢
   unfold rU;cases Nu c with
   |true=>
    rw[cond_true];have:=ih r (out++[c]) (i+1) (by omega) hb.tail (ho.snoc hc);exact⟨this.1,fun h=>by have:=this.2 h;omega⟩
   |false=>
    rw[cond_false];cases Nat.beq c 34 with
    |true=>
     rw[cond_true];cases br 64 (out.length:Int)with
     |true=>exact⟨er 5,fun h=>by cases h⟩
     |false=>exact⟨ho,fun h=>by show(i:Int)<((i+1:Nat):Int)∧((i+1:Nat):Int)≤_;omega⟩
    |false=>
     rw[cond_false];cases Nat.beq c 92 with
     |false=>exact⟨er 13,fun h=>by cases h⟩
     |true=>
      rw[cond_true];cases r with
      |nil=>exact⟨er 13,fun h=>by cases h⟩
      |cons d r1=>
       simp only[];simp only[List.length_cons]at ht ⊢
       cases(Nat.beq d 34||Nat.beq d 92)with
       |true=>
        rw[cond_true];have:=ih r1 (out++[d]) (i+2) (by omega) hb.tail.tail (ho.snoc (hb d (by simp)));exact⟨this.1,fun h=>by have:=this.2 h;omega⟩
       |false=>
        rw[cond_false];rcases r1 with _|⟨a,_|⟨b,r2⟩⟩
        ·exact⟨er 13,fun h=>by cases h⟩
        ·exact⟨er 13,fun h=>by cases h⟩
        ·simp only[];simp only[List.length_cons]at ht ⊢
         cases h4:(Nat.beq d 120&&(be 0 (gn a)&&be 0 (gn b)))with
         |false=>exact⟨er 13,fun h=>by cases h⟩
         |true=>
          rw[cond_true];simp only[lβ,j1,lγ]at h4;have hv:(16*gn a+gn b).toNat<256:=by have ha:=yH a;have hb:=yH b;omega
          have:=ih r2 (out++[(16*gn a+gn b).toNat]) (i+4) (by omega) hb.tail.tail.tail.tail (ho.snoc hv);exact⟨this.1,fun h=>by have:=this.2 h;omega⟩
theorem F0 (c:Nat)(r:List Nat)(hb:By (c::r)):By (je (c::r)).1.s∧((je (c::r)).2.2=0→0<(je (c::r)).2.1∧(je (c::r)).2.1≤((c::r).length:Int)):=by
 have er:∀e,By (rB e).1.s:=fun e c hc=>by cases hc
 have hw:=Hw (c::r);have hs:=ND (c::r);simp only[je];cases h0:br 0 (fo (c::r):Int)with
 |true=>
  rw[cond_true];rw[p9,lγ]at h0;cases br 32 (fo (c::r):Int)with
  |true=>exact⟨er 5,fun h=>by cases h⟩
  |false=>
   rw[cond_false];cases E7 ((c::r).take (fo (c::r)))<;>exact⟨hb.take _,fun _=>⟨h0,Int.ofNat_le.2 hw⟩⟩
 |false=>
  rw[cond_false];cases h1:eM (c:Int)with
  |true=>
   rw[cond_true];have hr:=A1 eM (c::r);have hr1:1≤dY eM (c::r):=by
    unfold dY;rw[List.takeWhile_cons,h1];simp
   unfold Qj;cases SS ((c::r).take (dY eM (c::r)))with
   |none=>exact⟨er 13,fun h=>by cases h⟩
   |some v=>
    simp only[];cases(br 1 (dY eM (c::r):Int)&&Nat.beq ((c::r).headD 0) 48)with
    |true=>exact⟨er 13,fun h=>by cases h⟩
    |false=>exact⟨hb.take _,fun _=>⟨by show(0:Int)<(dY eM (c::r):Int);omega,Int.ofNat_le.2 hr⟩⟩
  |false=>
   rw[cond_false];cases Nat.beq c 34 with
   |true=>
    rw[cond_true];have:=Tg r.length r [] 1 (Nat.le_refl _) hb.tail (fun c hc=>by cases hc);exact⟨this.1,fun h=>by have:=this.2 h;simp only[List.length_cons];omega⟩
   |false=>
    rw[cond_false];cases h2:eqI (rT (c::r):Int) 0 with
    |true=>exact⟨er 13,fun h=>by cases h⟩
    |false=>
     rw[dJ,mε]at h2;exact⟨hb.take _,fun _=>⟨by show(0:Int)<(rT (c::r):Int);omega,Int.ofNat_le.2 hs⟩⟩
def xU (l:List Tk):Prop:=∀t∈l,By t.s
theorem NK:∀(q:Nat) (t:List Nat) (i:Nat) (acc:List Tk),By t→xU acc→xU (NJ q t i acc).1∧(NJ q t i acc).1.length≤acc.length+t.length
 |0,t,i,acc,hb,ha=>⟨fun t ht=>(by cases ht),Nat.zero_le _⟩
 |q+1,[],i,acc,hb,ha=>⟨ha,by simp[NJ]⟩
 |q+1,c::r,i,acc,hb,ha=>by
  have h:=F0 c r hb;unfold NJ;cases he:eqI (je (c::r)).2.2 0 with
  |false=>exact⟨fun t ht=>(by cases ht),Nat.zero_le _⟩
  |true=>
   simp only[Bool.not_true,cond_false];rw[dJ,lγ]at he;have h2:=h.2 he;have:=NK q ((c::r).drop ((je (c::r)).2.1.toNat+qH false ((c::r).drop (je (c::r)).2.1.toNat))) (i+((je (c::r)).2.1.toNat+qH false ((c::r).drop (je (c::r)).2.1.toNat))) (acc++[{(je (c::r)).1 with a:=(i:Int)}]) (hb.drop _) (fun t ht=>by
    rcases mη.1 ht with h1|h1
    ·exact ha t h1
    ·simp only[List.mem_singleton]at h1;rw[h1];exact h.1)
   refine⟨this.1,mμ this.2 ?_⟩;rw[lπ,lυ,List.length_singleton];simp only[List.length_cons];simp only[List.length_cons]at h2;omega
theorem DH:∀(q q':Nat) (t:List Nat) (i:Nat) (acc:List Tk),By t→t.length<q→t.length<q'→NJ q t i acc=NJ q' t i acc
 |q+1,q'+1,[],i,acc,hb,h1,h2=>rfl
 |q+1,q'+1,c::r,i,acc,hb,h1,h2=>by
  unfold NJ;cases he:eqI (je (c::r)).2.2 0 with
  |false=>rfl
  |true=>
   simp only[Bool.not_true,cond_false];rw[dJ,lγ]at he;have h:=(F0 c r hb).2 he;simp only[List.length_cons]at h1 h2 h;exact DH q q' _ _ _ (hb.drop _) (by rw[lυ];simp only[List.length_cons];omega) (by rw[lυ];simp only[List.length_cons];omega)
def Hs (r:List Tk×Int×Int):D:= .tup [.p (.slice 4 (r.1.map Tk.e)),.p (.int .i64 r.2.1),.p (.int .i64 r.2.2)]
theorem NM {m:Nat}(s:List Nat)(hb:By s)(hl:s.length<1000000)(hm:s.length+40≤m):∀(k:Nat) (t:List Nat) (i q:Nat) (acc:List Tk),t.length≤k→s.drop i=t→i≤s.length→acc.length≤i→k<q→
  L_zTokens_1 (bu lay0.tab m) m (fun(i28,i29,l30,u31)=>some ((.tup [(.p (.slice 4 [])),(.p (.int .i64 i28)),(.p (.int .i64 i29))]),[]))
   (fun(s32,n33,i34,l35)=>some ((.tup [(.p (.slice 4 (List.take n33 (List.drop 0 l35)))),(.p (.int .i64 0)),(.p (.int .i64 0))]),[])) q (s,acc.length,(i:Int),acc.map Tk.e)=some (Hs (NJ q t i acc),[]):=by
 intro k;induction k with
 |zero=>
  intro t i q acc ht hs hi ha hq;obtain⟨q,rfl⟩:∃j,q=j+1:=⟨q - 1,by omega⟩
  obtain rfl:t=[]:=by cases t<;>simp_all
  have hi:s.length≤i:=by
   by_cases h:i<s.length
   ·rw[mα h]at hs;cases hs
   ·omega
  rw[pg];simp only[fg,Bh (show ¬(i:Int)<(s.length:Int) by omega),aU];rw[List.drop_zero,mξ (by rw[lμ];omega)];rfl
 |succ k ih=>
  intro t i q acc ht hs hi ha hq;obtain⟨q,rfl⟩:∃j,q=j+1:=⟨q - 1,by omega⟩
  rw[pg];cases t with
  |nil=>
   have hi:s.length≤i:=by
    by_cases h:i<s.length
    ·rw[mα h]at hs;cases hs
    ·omega
   simp only[fg,Bh (show ¬(i:Int)<(s.length:Int) by omega),aU];rw[List.drop_zero,mξ (by rw[lμ];omega)];rfl
  |cons c r=>
   obtain⟨hi',hg,hr⟩:=gb hs;have hbt:By (c::r):=hs▸hb.drop i;have hlen:i+(c::r).length=s.length:=by
    have:=congrArg List.length hs;rw[lυ]at this;omega
   have htk:List.take (s.length - i) (c::r)=c::r:=by rw[←hs,nk]
   have hT:=JS (m:=m) c r hbt (by omega) (by omega);have hok:=F0 c r hbt;simp only[fg,DO (show(i:Int)<(s.length:Int) by omega),aV,nv (show(0:Int)≤(i:Int) by omega),nv (show(i:Int)≤(s.length:Int) by omega),Int.toNat_natCast,hs,htk,aa hT,LR.d,ba,jn,aE,xA,aP,aM];unfold NJ;generalize je (c::r)=T at hok;obtain⟨T,n,e⟩:=T;simp only[]at hok ⊢
   cases he:eqI e 0 with
   |false=>rfl
   |true=>
    rw[dJ,lγ]at he;obtain⟨hn0,hn1⟩:=hok.2 he;obtain⟨j,rfl⟩:=Int.eq_ofNat_of_zero_le (Int.le_of_lt hn0);have hj0:0<j:=by omega
    have hj1:j≤(c::r).length:=Int.ofNat_le.1 hn1;have e1:(i:Int)+(j:Int)=((i+j:Nat):Int):=by omega
    have w1:ao .i64 ((i:Int)+(j:Int))=((i+j:Nat):Int):=by rw[e1,gT (by omega) (by omega)]
    have hd:s.drop (i+j)=(c::r).drop j:=by rw[←hs,mν]
    have htk2:List.take (s.length - (i+j)) ((c::r).drop j)=(c::r).drop j:=by rw[←hd,nk]
    have hsk:=wR false ((c::r).drop j);rw[lυ]at hsk;have hS:=F8 (m:=m) ((c::r).drop j) (hbt.drop j) (by rw[lυ];omega) (by rw[lυ];omega);have hT2:Tk.r T=⟨T.k,T.s,T.n,T.a⟩:=rfl;simp only[Bool.not_true,aU,cond_false,lμ,Nat.beq_refl,show ∀x:Nat,Nat.beq x x=true from fun x=>Nat.beq_refl x,aV,dy (show acc.length+List.length [Da.agg [Da.int .i64 T.r.Kind,Da.str T.r.Text,Da.int .i64 T.r.Num,Da.int .i64 (i:Int)]]<1000000001 by simp only[List.length_singleton];omega) (show 40≤1000 by decide),w1,nv (show(0:Int)≤((i+j:Nat):Int) by omega),nv (show((i+j:Nat):Int)≤(s.length:Int) by omega),Int.toNat_natCast,hd,htk2,aa hS,aE,aP,aM]
    have e2:((i+j:Nat):Int)+(qH false ((c::r).drop j):Int)=((i+(j+qH false ((c::r).drop j)):Nat):Int):=by omega
    rw[e2,gT (by omega) (by omega)];have:=ih ((c::r).drop (j+qH false ((c::r).drop j))) (i+(j+qH false ((c::r).drop j))) q (acc++[{T with a:=(i:Int)}]) (by rw[lυ];omega) (by rw[←mν,hs]) (by omega) (by rw[lπ,List.length_singleton];omega) (by omega);rw[List.map_append,lπ]at this;rw[lπ,lμ];exact this
theorem xS {m:Nat}(s:List Nat)(hb:By s)(hl:s.length<1000000)(hm:s.length+50≤m):evFn lay0.tab m 13 [.p (.str s)] []=some (Hs (lH s),[]):=by
 replace hm:=aO hm;obtain⟨m,rfl,hm⟩:=hm;apply H2 m s;unfold qS lH;cases br 6000 (s.length:Int)with
 |true=>rfl
 |false=>
  rw[aU,cond_false];simp only[aa (F8 (m:=m) s hb hl (by omega)),aE,aP,aM];have hsk:=wR false s;have:=NM (m:=m) s hb hl (by omega) s.length (s.drop (qH false s)) (qH false s) m [] (by rw[lυ];omega) rfl hsk (Nat.zero_le _) (by omega);rw[DH (s.length+1) m _ _ _ (hb.drop _) (by rw[lυ];omega) (by rw[lυ];omega)];exact this
theorem Ht (s:List Nat)(hb:By s):xU (lH s).1∧(lH s).1.length≤s.length:=by
 unfold lH;cases br 6000 (s.length:Int)with
 |true=>exact⟨fun t ht=>(by cases ht),Nat.zero_le _⟩
 |false=>
  have:=NK (s.length+1) (s.drop (qH false s)) (qH false s) [] (hb.drop _) (fun t ht=>by cases ht);rw[cond_false];refine⟨this.1,mμ this.2 ?_⟩;rw[lυ];simp
end
end Go.Ab
end
section
namespace Go.Ab
open Go
set_option maxRecDepth 100000
noncomputable section
theorem af {α β:Type}{p:PM α}{f:α→PM β}{s:PS}{r:β×PS}(h:p.bnd f s=some r):∃a t,p s=some (a,t)∧f a t=some r:=by
 unfold PM.bnd at h;cases hp:p s with
 |none=>rw[hp]at h;cases h
 |some x=>rw[hp]at h;exact⟨x.1,x.2,rfl,h⟩
theorem bz {α:Type}{g:PS→α×PS}{s:PS}{r:α×PS}(h:lf g s=some r):s.sz=true∧g s=r:=by
 unfold lf at h;cases hz:s.sz with
 |false=>rw[hz]at h;cases h
 |true=>rw[hz]at h;exact⟨rfl,Option.some.inj h⟩
theorem aS {α:Type}{c:PS→Bool}{p q:PM α}{s:PS}{r:α×PS}(h:cnd c p q s=some r):s.sz=true∧(c s=true∧p s=some r∨c s=false∧q s=some r):=by
 unfold cnd at h;cases hz:s.sz with
 |false=>rw[hz]at h;cases h
 |true=>
  rw[hz,cond_true]at h;cases hc:c s with
  |false=>rw[hc]at h;exact⟨rfl,.inr ⟨rfl,h⟩⟩
  |true=>rw[hc]at h;exact⟨rfl,.inl ⟨rfl,h⟩⟩
theorem bH {α:Type}{p q:PM α}{s:PS}{r:α×PS}(h:cok p q s=some r):s.ok=true∧p s=some r∨s.ok=false∧q s=some r:=by
 unfold cok at h;cases hc:s.ok with
 |false=>rw[hc]at h;exact .inr ⟨rfl,h⟩
 |true=>rw[hc]at h;exact .inl ⟨rfl,h⟩
theorem fO {α:Type}{l:List (List Nat)}{p:PM α}{f:List Nat→PM α}{s:PS}{r:α×PS}(h:fnO l p f s=some r):s.sz=true∧(l.find? s.is=none∧p s=some r∨∃o,l.find? s.is=some o∧f o s=some r):=by
 unfold fnO at h;cases hz:s.sz with
 |false=>rw[hz]at h;cases h
 |true=>
  rw[hz,cond_true]at h;cases hc:l.find? s.is with
  |none=>rw[hc]at h;exact⟨rfl,.inl ⟨rfl,h⟩⟩
  |some o=>rw[hc]at h;exact⟨rfl,.inr ⟨o,rfl,h⟩⟩
theorem aH {α:Type}{a b:α}{s t:PS}(h:PM.ret a s=some (b,t)):a=b∧s=t:=by
 unfold PM.ret at h;injection h with h;injection h with h1 h2;exact⟨h1,h2⟩
theorem qv {s:PS}(h:s.sz=true):s.ps≤s.tk.length∧s.tk.length<1000000∧∀t∈s.tk,By t.s:=by
 unfold PS.sz at h;simp only[lβ,lγ,mγ]at h;exact⟨h.1,h.2.1,h.2.2⟩
theorem Hr (s:PS)(i:Nat):jW (s.tk.map Tk.e) (i:Int)=(s.tk[i]?).map Tk.e:=by rw[jl,ld]
theorem ju {s:PS}(h:s.sz=true)(i:Nat)(hp:(s.peek i).k≠0):s.ps+i<s.tk.length:=by
 unfold PS.peek at hp;by_cases hl:s.ps+i<s.tk.length
 ·exact hl
 ·rw[lδ (by omega)]at hp;exact absurd (by cases s.ok<;>rfl) hp
theorem dr {s:PS}(h:s.sz=true){x:List Nat}(hp:s.is x=true):s.ps<s.tk.length:=by
 refine ju h 0 fun e=>?_
 unfold PS.is at hp;rw[e]at hp;cases hp
theorem Jy {s:PS}(h:s.sz=true)(hp:s.ps<s.tk.length):ao .i64 ((s.ps:Int)+1)=((s.ps+1:Nat):Int):=wS (by have:=qv h;unfold lI;omega)
theorem jt {α β:Type}(f:α→β)(l:List α):((l.map f).length:Int)=(l.length:Int):=by rw[lμ]
theorem fv {m:Nat}(s:PS)(hm:1≤m):evFn lay0.tab m 42 [.box 0 0] s.A.hp=some (.p (.bool s.ok),s.A.hp):=by
 replace hm:=aO hm;obtain⟨m,rfl,hm⟩:=hm;apply Rx m s.A;rfl
theorem fu {m:Nat}(s:PS)(e:Int)(hm:1≤m):evFn lay0.tab m 44 [.box 0 0,.p (.int .i64 e)] s.A.hp=some (.tup [],(s.fail e).A.hp):=by
 replace hm:=aO hm;obtain⟨m,rfl,hm⟩:=hm;apply J2 m s.A e;unfold uo PS.fail;show iL (!s.ok) _ (iL (br (s.ps:Int) ((s.tk.map Tk.e).length:Int)) (cL (jW (s.tk.map Tk.e) (s.ps:Int)) _) _)=_;cases s.ok with
 |false=>rfl
 |true=>
  rw[jt,Hr];by_cases h:s.ps<s.tk.length
  ·rw[DO (by omega),lε h];rfl
  ·rw[Bh (by omega),lδ (by omega)];rfl
theorem iw {m:Nat}(s:PS)(i:Nat)(hi:i<1000)(hz:s.sz=true)(hm:60≤m):evFn lay0.tab m 73 [.box 0 0,.p (.int .i64 (i:Int))] s.A.hp=some (.p (s.peek i).e,s.A.hp):=by
 replace hm:=aO hm;obtain⟨m,rfl,hm⟩:=hm;obtain⟨h1,h2,h3⟩:=qv hz;apply J9 m s.A i;unfold ux PS.peek;simp only[aa (fv (m:=m) s (by omega)),aE,aw,bP];cases s.ok with
 |false=>rfl
 |true=>
  have hat:jW s.A.tk (ao .i64 (s.A.ps+(i:Int)))=(s.tk[s.ps+i]?).map Tk.e:=by
   show jW (s.tk.map Tk.e) (ao .i64 ((s.ps:Int)+(i:Int)))=_;rw[show(s.ps:Int)+(i:Int)=((s.ps+i:Nat):Int) by omega,gT (by omega) (by omega),Hr]
  have hle:be (s.A.tk.length:Int) (ao .i64 (s.A.ps+(i:Int)))=be (s.tk.length:Int) ((s.ps+i:Nat):Int):=by
   show be ((s.tk.map Tk.e).length:Int) (ao .i64 ((s.ps:Int)+(i:Int)))=_;rw[show(s.ps:Int)+(i:Int)=((s.ps+i:Nat):Int) by omega,gT (by omega) (by omega),jt]
  simp only[Bool.not_true,aU,hle,hat,cond_true];by_cases h:s.ps+i<s.tk.length
  ·rw[UD (by omega),lε h,aU];have hb:=h3 _ (mω h);have hp:=xQ (m:=m) s.tk[s.ps+i] hb (by omega);have hp':evFn lay0.tab m 99 [.p (Tk.r s.tk[s.ps+i]).e] []=some (.p (.bool (ls s.tk[s.ps+i])),[]):=hp;simp only[Option.map_some,fX,xA,aa hp',aE,aw,aM,cond_true];cases ls s.tk[s.ps+i]<;>rfl
  ·rw[nv (by omega),lδ (by omega)];rfl
theorem f3 {m:Nat}(s:PS)(x:List Nat)(hz:s.sz=true)(hm:61≤m):evFn lay0.tab m 43 [.box 0 0,.p (.str x)] s.A.hp=some (.p (.bool (s.is x)),s.A.hp):=by
 replace hm:=aO hm;obtain⟨m,rfl,hm⟩:=hm;apply Rt m s.A x;unfold D1 PS.is;have hp:=iw (m:=m) s 0 (by decide) hz hm;simp only[show((0:Nat):Int)=0 from rfl]at hp;simp only[aa hp,aE,xA,bP];show iL (eqI (s.peek 0).k 2) _ (iL (eqI (s.peek 0).k 5) _ _)=_;cases eqI (s.peek 0).k 2<;>cases eqI (s.peek 0).k 5<;>rfl
theorem cJ {m:Nat}(s:PS)(x:List Nat)(hz:s.sz=true)(hm:62≤m):evFn lay0.tab m 100 [.box 0 0,.p (.str x)] s.A.hp=some (.p (.bool (s.is x)),(bif s.is x then s.up else s).A.hp):=by
 replace hm:=aO hm;obtain⟨m,rfl,hm⟩:=hm;apply Ed m s.A x;unfold nO;simp only[aa (f3 (m:=m) s x hz hm),aE,aw,bP];cases hx:s.is x with
 |false=>rfl
 |true=>
  show some (_,bi.hp {s.A with ps:=ao .i64 ((s.ps:Int)+1)})=_;rw[Jy hz (dr hz hx)];rfl
theorem nN {m:Nat}(s:PS)(x:List Nat)(hz:s.sz=true)(hm:63≤m):evFn lay0.tab m 74 [.box 0 0,.p (.str x)] s.A.hp=some (.tup [],(s.exp x).A.hp):=by
 replace hm:=aO hm;obtain⟨m,rfl,hm⟩:=hm;apply Ej m s.A x;unfold nU PS.exp;simp only[aa (cJ (m:=m) s x hz hm),aE,aw,bP];cases hx:s.is x with
 |false=>simp only[Bool.not_false,aV,cond_false,aa (fu (m:=m) s 13 (by omega)),ba,aM,bP]
 |true=>rfl
theorem JO {m:Nat}(s:PS)(k:Int)(hk:k≠0)(hz:s.sz=true)(hm:62≤m):evFn lay0.tab m 101 [.box 0 0,.p (.int .i64 k)] s.A.hp=some (.p (s.take k).1.e,(s.take k).2.A.hp):=by
 replace hm:=aO hm;obtain⟨m,rfl,hm⟩:=hm;apply Kb m s.A k;unfold uz PS.take;have hp:=iw (m:=m) s 0 (by decide) hz (by omega);simp only[show((0:Nat):Int)=0 from rfl]at hp;simp only[aa hp,aE,xA,bP,show(s.peek 0).r.Kind=(s.peek 0).k from rfl,aa (fu (m:=m) s 13 (by omega)),ba,aM];cases hx:eqI (s.peek 0).k k with
 |false=>rfl
 |true=>
  rw[dJ,lγ]at hx;show some (_,bi.hp {s.A with ps:=ao .i64 ((s.ps:Int)+1)})=_;rw[Jy hz (ju hz 0 (by rw[hx];exact hk))];rfl
theorem JM {m:Nat}(s:PS)(hz:s.sz=true)(hm:63≤m):evFn lay0.tab m 75 [.box 0 0] s.A.hp=some (.p (.str (s.take 1).1.s),(s.take 1).2.A.hp):=by
 replace hm:=aO hm;obtain⟨m,rfl,hm⟩:=hm;apply J7 m s.A;unfold uv;simp only[aa (JO (m:=m) s 1 (by decide) hz hm),aE,xA,bP];rfl
theorem JK {m:Nat}(s:PS)(hz:s.sz=true)(hm:80≤m):evFn lay0.tab m 102 [.box 0 0] s.A.hp=some (.p (.int .i64 (ck kindL 1 s).1),(ck kindL 1 s).2.A.hp):=by
 replace hm:=aO hm;obtain⟨m,rfl,hm⟩:=hm;apply J5 m s.A;unfold ut;replace hm:∃k,m=k+7∧72≤k:=⟨m - 7,by omega,by omega⟩
 obtain⟨m,rfl,hm⟩:=hm;have ha:=fun x=>cJ (m:=m+7) s x hz (by omega)
 simp only[BF,kY,show ao .i64 (0+1)=1 from rfl,show ao .i64 (1+1)=2 from rfl,show ao .i64 (2+1)=3 from rfl,show ao .i64 (3+1)=4 from rfl,show ao .i64 (4+1)=5 from rfl,
  show br 0 5=true from rfl,show br 1 5=true from rfl,show br 2 5=true from rfl,show br 3 5=true from rfl,show br 4 5=true from rfl,show br 5 5=false from rfl,show be 0 0=true from rfl,show be 0 1=true from rfl,show be 0 2=true from rfl,show be 0 3=true from rfl,show be 0 4=true from rfl,aV,aU,
  show((5:Nat):Int)=5 from rfl,show Int.toNat 0=0 from rfl,show Int.toNat 1=1 from rfl,show Int.toNat 2=2 from rfl,show Int.toNat 3=3 from rfl,show Int.toNat 4=4 from rfl,List.getElem?_cons_zero,List.getElem?_cons_succ,fX,iI,aa (ha _),aE,aw,bP]
 unfold kindL;simp only[ck];cases h1:s.is [105,110,116]with
 |true=>rfl
 |false=>
  simp only[aU,cond_false];simp only[aa (ha _),aE,aw,bP];cases h2:s.is [98,111,111,108]with
  |true=>rfl
  |false=>
   simp only[aU,cond_false];simp only[aa (ha _),aE,aw,bP];cases h3:s.is [115,116,114,105,110,103]with
   |true=>rfl
   |false=>
    simp only[aU,cond_false];simp only[aa (ha _),aE,aw,bP];cases h4:s.is [105,110,116,115]with
    |true=>rfl
    |false=>
     simp only[aU,cond_false];simp only[aa (ha _),aE,aw,bP];cases h5:s.is [115,116,114,105,110,103,115]with
     |true=>rfl
     |false=>
      simp only[aU,cond_false,aa (fu (m:=m+7) s 13 (by omega)),ba,aM,bP]
theorem lK {m:Nat}(s:PS)(hm:1≤m):evFn lay0.tab m 42 [.box 0 0] s.B.hp=some (.p (.bool s.ok),s.B.hp):=by
 replace hm:=aO hm;obtain⟨m,rfl,hm⟩:=hm;apply Ry m s.B;rfl
theorem cB {m:Nat}(s:PS)(e:Int)(hm:1≤m):evFn lay0.tab m 44 [.box 0 0,.p (.int .i64 e)] s.B.hp=some (.tup [],(s.fail e).B.hp):=by
 replace hm:=aO hm;obtain⟨m,rfl,hm⟩:=hm;apply J3 m s.B e;unfold uq PS.fail;show iL (!s.ok) _ (iL (br (s.ps:Int) ((s.tk.map Tk.e).length:Int)) (cL (jW (s.tk.map Tk.e) (s.ps:Int)) _) _)=_;cases s.ok with
 |false=>rfl
 |true=>
  rw[jt,Hr];by_cases h:s.ps<s.tk.length
  ·rw[DO (by omega),lε h];rfl
  ·rw[Bh (by omega),lδ (by omega)];rfl
theorem iy {m:Nat}(s:PS)(i:Nat)(hi:i<1000)(hz:s.sz=true)(hm:60≤m):evFn lay0.tab m 73 [.box 0 0,.p (.int .i64 (i:Int))] s.B.hp=some (.p (s.peek i).e,s.B.hp):=by
 replace hm:=aO hm;obtain⟨m,rfl,hm⟩:=hm;obtain⟨h1,h2,h3⟩:=qv hz;apply Ka m s.B i;unfold uy PS.peek;simp only[aa (lK (m:=m) s (by omega)),aE,aw,eX];cases s.ok with
 |false=>rfl
 |true=>
  have hat:jW s.B.tk (ao .i64 (s.B.ps+(i:Int)))=(s.tk[s.ps+i]?).map Tk.e:=by
   show jW (s.tk.map Tk.e) (ao .i64 ((s.ps:Int)+(i:Int)))=_;rw[show(s.ps:Int)+(i:Int)=((s.ps+i:Nat):Int) by omega,gT (by omega) (by omega),Hr]
  have hle:be (s.B.tk.length:Int) (ao .i64 (s.B.ps+(i:Int)))=be (s.tk.length:Int) ((s.ps+i:Nat):Int):=by
   show be ((s.tk.map Tk.e).length:Int) (ao .i64 ((s.ps:Int)+(i:Int)))=_;rw[show(s.ps:Int)+(i:Int)=((s.ps+i:Nat):Int) by omega,gT (by omega) (by omega),jt]
  simp only[Bool.not_true,aU,hle,hat,cond_true];by_cases h:s.ps+i<s.tk.length
  ·rw[UD (by omega),lε h,aU];have hb:=h3 _ (mω h);have hp:=xQ (m:=m) s.tk[s.ps+i] hb (by omega);have hp':evFn lay0.tab m 99 [.p (Tk.r s.tk[s.ps+i]).e] []=some (.p (.bool (ls s.tk[s.ps+i])),[]):=hp;simp only[Option.map_some,fX,xA,aa hp',aE,aw,aM,cond_true];cases ls s.tk[s.ps+i]<;>rfl
  ·rw[nv (by omega),lδ (by omega)];rfl
theorem kx {m:Nat}(s:PS)(x:List Nat)(hz:s.sz=true)(hm:61≤m):evFn lay0.tab m 43 [.box 0 0,.p (.str x)] s.B.hp=some (.p (.bool (s.is x)),s.B.hp):=by
 replace hm:=aO hm;obtain⟨m,rfl,hm⟩:=hm;apply Ru m s.B x;unfold D2 PS.is;have hp:=iy (m:=m) s 0 (by decide) hz hm;simp only[show((0:Nat):Int)=0 from rfl]at hp;simp only[aa hp,aE,xA,eX];show iL (eqI (s.peek 0).k 2) _ (iL (eqI (s.peek 0).k 5) _ _)=_;cases eqI (s.peek 0).k 2<;>cases eqI (s.peek 0).k 5<;>rfl
theorem dZ {m:Nat}(s:PS)(x:List Nat)(hz:s.sz=true)(hm:62≤m):evFn lay0.tab m 100 [.box 0 0,.p (.str x)] s.B.hp=some (.p (.bool (s.is x)),(bif s.is x then s.up else s).B.hp):=by
 replace hm:=aO hm;obtain⟨m,rfl,hm⟩:=hm;apply Ee m s.B x;unfold nP;simp only[aa (kx (m:=m) s x hz hm),aE,aw,eX];cases hx:s.is x with
 |false=>rfl
 |true=>
  show some (_,bw.hp {s.B with ps:=ao .i64 ((s.ps:Int)+1)})=_;rw[Jy hz (dr hz hx)];rfl
theorem DU {m:Nat}(s:PS)(x:List Nat)(hz:s.sz=true)(hm:63≤m):evFn lay0.tab m 74 [.box 0 0,.p (.str x)] s.B.hp=some (.tup [],(s.exp x).B.hp):=by
 replace hm:=aO hm;obtain⟨m,rfl,hm⟩:=hm;apply Ek m s.B x;unfold nV PS.exp;simp only[aa (dZ (m:=m) s x hz hm),aE,aw,eX];cases hx:s.is x with
 |false=>simp only[Bool.not_false,aV,cond_false,aa (cB (m:=m) s 13 (by omega)),ba,aM,eX]
 |true=>rfl
theorem oY {m:Nat}(s:PS)(k:Int)(hk:k≠0)(hz:s.sz=true)(hm:62≤m):evFn lay0.tab m 101 [.box 0 0,.p (.int .i64 k)] s.B.hp=some (.p (s.take k).1.e,(s.take k).2.B.hp):=by
 replace hm:=aO hm;obtain⟨m,rfl,hm⟩:=hm;apply Kc m s.B k;unfold uA PS.take;have hp:=iy (m:=m) s 0 (by decide) hz (by omega);simp only[show((0:Nat):Int)=0 from rfl]at hp;simp only[aa hp,aE,xA,eX,show(s.peek 0).r.Kind=(s.peek 0).k from rfl,aa (cB (m:=m) s 13 (by omega)),ba,aM];cases hx:eqI (s.peek 0).k k with
 |false=>rfl
 |true=>
  rw[dJ,lγ]at hx;show some (_,bw.hp {s.B with ps:=ao .i64 ((s.ps:Int)+1)})=_;rw[Jy hz (ju hz 0 (by rw[hx];exact hk))];rfl
theorem JN {m:Nat}(s:PS)(hz:s.sz=true)(hm:63≤m):evFn lay0.tab m 75 [.box 0 0] s.B.hp=some (.p (.str (s.take 1).1.s),(s.take 1).2.B.hp):=by
 replace hm:=aO hm;obtain⟨m,rfl,hm⟩:=hm;apply J8 m s.B;unfold uw;simp only[aa (oY (m:=m) s 1 (by decide) hz hm),aE,xA,eX];rfl
theorem JL {m:Nat}(s:PS)(hz:s.sz=true)(hm:80≤m):evFn lay0.tab m 102 [.box 0 0] s.B.hp=some (.p (.int .i64 (ck kindL 1 s).1),(ck kindL 1 s).2.B.hp):=by
 replace hm:=aO hm;obtain⟨m,rfl,hm⟩:=hm;apply J6 m s.B;unfold uu;replace hm:∃k,m=k+7∧72≤k:=⟨m - 7,by omega,by omega⟩
 obtain⟨m,rfl,hm⟩:=hm;have ha:=fun x=>dZ (m:=m+7) s x hz (by omega)
 simp only[BG,kZ,show ao .i64 (0+1)=1 from rfl,show ao .i64 (1+1)=2 from rfl,show ao .i64 (2+1)=3 from rfl,show ao .i64 (3+1)=4 from rfl,show ao .i64 (4+1)=5 from rfl,
  show br 0 5=true from rfl,show br 1 5=true from rfl,show br 2 5=true from rfl,show br 3 5=true from rfl,show br 4 5=true from rfl,show br 5 5=false from rfl,show be 0 0=true from rfl,show be 0 1=true from rfl,show be 0 2=true from rfl,show be 0 3=true from rfl,show be 0 4=true from rfl,aV,aU,
  show((5:Nat):Int)=5 from rfl,show Int.toNat 0=0 from rfl,show Int.toNat 1=1 from rfl,show Int.toNat 2=2 from rfl,show Int.toNat 3=3 from rfl,show Int.toNat 4=4 from rfl,List.getElem?_cons_zero,List.getElem?_cons_succ,fX,iI,aa (ha _),aE,aw,eX]
 unfold kindL;simp only[ck];cases h1:s.is [105,110,116]with
 |true=>rfl
 |false=>
  simp only[aU,cond_false];simp only[aa (ha _),aE,aw,eX];cases h2:s.is [98,111,111,108]with
  |true=>rfl
  |false=>
   simp only[aU,cond_false];simp only[aa (ha _),aE,aw,eX];cases h3:s.is [115,116,114,105,110,103]with
   |true=>rfl
   |false=>
    simp only[aU,cond_false];simp only[aa (ha _),aE,aw,eX];cases h4:s.is [105,110,116,115]with
    |true=>rfl
    |false=>
     simp only[aU,cond_false];simp only[aa (ha _),aE,aw,eX];cases h5:s.is [115,116,114,105,110,103,115]with
     |true=>rfl
     |false=>
      simp only[aU,cond_false,aa (cB (m:=m+7) s 13 (by omega)),ba,aM,eX]
theorem rZ {m:Nat}{s t:PS}{n:Int}(h:pInt s=some (n,t))(hm:65≤m):evFn lay0.tab m 118 [.box 0 0] s.B.hp=some (.p (.int .i64 n),t.B.hp):=by
 replace hm:=aO hm;obtain⟨m,rfl,hm⟩:=hm;apply BJ m s.B;unfold lM;obtain⟨hz,h⟩:=aS h;simp only[aa (dZ (m:=m) s _ hz (by omega)),aE,aw,eX];rcases h with⟨hc,h⟩|⟨hc,h⟩
 ·obtain⟨_,s1,h1,h⟩:=af h;obtain⟨-,h1⟩:=bz h1;injection h1 with _ h1;subst h1;obtain⟨k,s2,h2,h⟩:=af h;obtain⟨hz2,h2⟩:=bz h2;obtain⟨rfl,rfl⟩:=aH h;simp only[hc,cond_true,aV,aa (oY (m:=m) s.up 3 (by decide) hz2 (by omega)),aE,xA,eX,h2];rfl
 ·obtain⟨k,s2,h2,h⟩:=af h;obtain⟨hz2,h2⟩:=bz h2;obtain⟨rfl,rfl⟩:=aH h;simp only[hc,cond_false,aU,aa (oY (m:=m) s 3 (by decide) hz2 (by omega)),aE,xA,eX,h2];rfl
end
end Go.Ab
end
