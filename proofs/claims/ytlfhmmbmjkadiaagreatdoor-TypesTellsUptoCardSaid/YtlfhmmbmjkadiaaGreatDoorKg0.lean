import Derived.Test.YtlfhmmbmjkadiaaGreatDoorDcA
import Derived.Test.YtlfhmmbmjkadiaaGreatDoorAl
import Derived.Test.YtlfhmmbmjkadiaaGreatDoorOg0
import Derived.Test.YtlfhmmbmjkadiaaGreatDoorOg1
set_option linter.all false
section
namespace Go.Ab
open Go
noncomputable section
structure Va where
 k:Int
 n:Int
 s:List Nat
 I:List Int
 L:List (List Nat)
structure No where
 op:Int
 name:List Nat
 v:Va
 kids:List Int
structure Pa where
 name:List Nat
 kind:Int
structure Fe where
 name:List Nat
 kind:Int
 init:Va
structure Me where
 name:List Nat
 params:List Pa
 result:Int
 nodes:List No
structure Ac where
 name:List Nat
 fields:List Fe
 methods:List Me
def iE (i:Int):Da:= .int .i64 i
def No.r (n:No):aF:=⟨n.op,n.name,n.v.k,n.v.n,n.v.s,n.v.I.map iE,n.v.L.map .str,n.kids.map iE⟩
def No.e (n:No):Da:=n.r.e
def Pa.r (p:Pa):cS:=⟨p.name,p.kind⟩
def Pa.e (p:Pa):Da:=p.r.e
def Fe.r (f:Fe):bW:=⟨f.name,f.kind,f.init.k,f.init.n,f.init.s,f.init.I.map iE,f.init.L.map .str⟩
def Fe.e (f:Fe):Da:=f.r.e
def Me.r (m:Me):ah:=⟨m.name,m.params.map Pa.e,m.result,m.nodes.map No.e⟩
def Me.e (m:Me):Da:=m.r.e
def Ac.r (a:Ac):af:=⟨a.name,a.fields.map Fe.e,a.methods.map Me.e⟩
def Ac.e (a:Ac):Da:=a.r.e
theorem sI (n:No)(K:aF→R):aI n.e K=K n.r:=rfl
theorem ZH (n:Pa)(K:cS→R):bH n.e K=K n.r:=rfl
theorem dFe (n:Fe)(K:bW→R):bR n.e K=K n.r:=rfl
theorem NK (n:Me)(K:ah→R):bk n.e K=K n.r:=rfl
theorem HQ (n:Ac)(K:af→R):aM n.e K=K n.r:=rfl
theorem dI (i:Int)(K:Int→R):aQ .i64 (iE i) K=K i:=rfl
def cb:Nat:=1000000000000
theorem wS {i:Nat}(h:i<cb):aj .i64 ((i:Int)+1)=((i+1:Nat):Int):=by
 unfold cb at h;rw[jT (by omega) (by omega)];omega
theorem cT {a b:Int}(h:a<b):aU a b=true:=by rw[iR];simpa using h
theorem Bq {a b:Int}(h:¬a<b):aU a b=false:=by rw[iR];simpa using h
theorem bY (a:Int):aU a a=false:=Bq (Int.lt_irrefl a)
structure Vr where
 kind:Int
 slot:Int
 field:Bool
def Vr.r (v:Vr):bD:=⟨v.kind,v.slot,v.field⟩
def Vr.e (v:Vr):Da:=v.r.e
theorem dVr (n:Vr)(K:bD→R):aT n.e K=K n.r:=rfl
def cY {β:Type}(l:List (List Nat×β))(s:List Nat):Option β:=(l.find? fun p=>decide (s=p.1)).map (·.2)
def nC {β:Type}(l:List (List Nat×β))(s:List Nat)(v:β):List (List Nat×β):=match l.findIdx? (fun p=>decide (s=p.1))with|some j=>l.set j (s,v)|none=>l++[(s,v)]
def lG {β:Type}(l:List (Int×β))(s:Int):Option β:=(l.find? fun p=>decide (s=p.1)).map (·.2)
def td {β:Type}(l:List (Int×β))(s:Int)(v:β):List (Int×β):=match l.findIdx? (fun p=>decide (s=p.1))with|some j=>l.set j (s,v)|none=>l++[(s,v)]
theorem vO {α:Type}(kt:TypeDesc)(k:Da)(f:α→Da)(p:α→Bool)(h:∀x,nj kt k (f x)=some (p x)):∀(l:List α) (i:Nat),bM kt k (l.map f) i=some ((l.findIdx? p).map (i+ ·))
 |[],i=>rfl
 |x::r,i=>by
  simp only[List.map_cons,bM,h,mτ];cases p x
  ·simp only[vO kt k f p h r (i+1),Bool.false_eq_true,if_false,Option.map_map];congr 1;cases r.findIdx? p with
   |none=>rfl
   |some j=>simp only[Option.map_some,Function.comp];congr 1;omega
  ·rfl
theorem TI {β:Type}(l:List (List Nat×β))(s:List Nat):bM .string (.str s) (l.map fun p=> .str p.1) 0=some (l.findIdx? fun p=>decide (s=p.1)):=by
 rw[vO .string (.str s) (fun p:List Nat×β=> .str p.1) (fun p=>decide (s=p.1)) (fun x=>by simp only[nj,dB])];cases l.findIdx? (fun p=>decide (s=p.1))<;>simp
theorem TH {β:Type}(l:List (Int×β))(s:Int):bM (.int .i64) (.int .i64 s) (l.map fun p=> .int .i64 p.1) 0=some (l.findIdx? fun p=>decide (s=p.1)):=by
 rw[vO (.int .i64) (.int .i64 s) (fun p:Int×β=> .int .i64 p.1) (fun p=>decide (s=p.1)) (fun x=>by simp only[nj,if_true,aV])];cases l.findIdx? (fun p=>decide (s=p.1))<;>simp
theorem hD {α:Type}(p:α→Bool):∀(l:List α),(match l.findIdx? p with|some j=>l[j]?|none=>none)=l.find? p
 |[]=>rfl
 |x::r=>by
  simp only[mτ,List.find?_cons];cases p x
  ·simp only[Bool.false_eq_true,if_false];rw[←hD p r];cases r.findIdx? p<;>rfl
  ·rfl
def mO {β:Type}(o:Option β)(E:R)(K:β→R):R:=match o with|none=>E|some v=>K v
theorem aaL {β:Type}(E:R)(K:β→R):mO none E K=E:=rfl
theorem R6 {β:Type}(v:β)(E:R)(K:β→R):mO (some v) E K=K v:=rfl
theorem lkS {β:Type}(l:List (List Nat×β))(s:List Nat)(e:β→Da)(E:R)(K:Da→R):(cL (bM .string (.str s) (l.map fun p=> .str p.1) 0) fun y=>eZ y E fun n=>cL (l.map fun p=>e p.2)[n]? K)=mO (cY l s) E fun v=>K (e v):=by
 rw[TI];unfold cY;rw[←hD];cases h:l.findIdx? (fun p=>decide (s=p.1))with
 |none=>rfl
 |some j=>
  have hj:j<l.length:=(lσ.1 h).1;simp only[be,Lu,lχ,lγ hj,Option.map_some,R6]
theorem lkI {β:Type}(l:List (Int×β))(s:Int)(e:β→Da)(E:R)(K:Da→R):(cL (bM (.int .i64) (.int .i64 s) (l.map fun p=> .int .i64 p.1) 0) fun y=>eZ y E fun n=>cL (l.map fun p=>e p.2)[n]? K)=mO (lG l s) E fun v=>K (e v):=by
 rw[TH];unfold lG;rw[←hD];cases h:l.findIdx? (fun p=>decide (s=p.1))with
 |none=>rfl
 |some j=>
  have hj:j<l.length:=(lσ.1 h).1;simp only[be,Lu,lχ,lγ hj,Option.map_some,R6]
theorem P3 {α β:Type}{l:List (α×β)}{j:Nat}{s:α}{v:β}{hj:j<l.length}(h:l[j].1=s):(l.set j (s,v)).map (·.1)=l.map (·.1):=by
 apply List.ext_getElem?;intro k;simp only[lχ,List.getElem?_set];by_cases hk:j=k
 ·subst hk;simp[hj,←h]
 ·simp[hk]
theorem upS {β:Type}(l:List (List Nat×β))(s:List Nat)(e:β→Da)(v:β)(G:List Da→List Da→R):(cL (bM .string (.str s) (l.map fun p=> .str p.1) 0) fun y=>eZ y (G ((l.map fun p=> .str p.1)++[.str s]) ((l.map fun p=>e p.2)++[e v])) fun n=>G (l.map fun p=> .str p.1) ((l.map fun p=>e p.2).set n (e v)))=G ((nC l s v).map fun p=> .str p.1) ((nC l s v).map fun p=>e p.2):=by
 rw[TI];unfold nC;cases h:l.findIdx? (fun p=>decide (s=p.1))with
 |none=>simp only[be,aa4,List.map_append,List.map_cons,List.map_nil]
 |some j=>
  obtain⟨hj,hp,_⟩:=lσ.1 h;have hk:(l.set j (s,v)).map (·.1)=l.map (·.1):=P3 (hj:=hj) (by simpa using(of_decide_eq_true hp).symm);simp only[be,Lu];congr 1
  ·have:=congrArg (List.map Da.str) hk;simp only[List.map_map]at this;exact this.symm
  ·rw[List.map_set]
theorem upI {β:Type}(l:List (Int×β))(s:Int)(e:β→Da)(v:β)(G:List Da→List Da→R):(cL (bM (.int .i64) (.int .i64 s) (l.map fun p=> .int .i64 p.1) 0) fun y=>eZ y (G ((l.map fun p=> .int .i64 p.1)++[.int .i64 s]) ((l.map fun p=>e p.2)++[e v])) fun n=>G (l.map fun p=> .int .i64 p.1) ((l.map fun p=>e p.2).set n (e v)))=G ((td l s v).map fun p=> .int .i64 p.1) ((td l s v).map fun p=>e p.2):=by
 rw[TH];unfold td;cases h:l.findIdx? (fun p=>decide (s=p.1))with
 |none=>simp only[be,aa4,List.map_append,List.map_cons,List.map_nil]
 |some j=>
  obtain⟨hj,hp,_⟩:=lσ.1 h;have hk:(l.set j (s,v)).map (·.1)=l.map (·.1):=P3 (hj:=hj) (by simpa using(of_decide_eq_true hp).symm);simp only[be,Lu];congr 1
  ·have:=congrArg (List.map (Da.int .i64)) hk;simp only[List.map_map]at this;exact this.symm
  ·rw[List.map_set]
structure CS where
 pr:List Ac
 fs:List (List Nat×Vr)
 ns:List No
 re:Int
 nd:Int
 er:Int
 sc:List (List Nat×Vr)
 le:List (List Nat×Bool)
 lo:List Pa
 ki:List (Int×Int)
 va:List (Int×Vr)
def CS.k (c:CS):eC:=⟨c.pr.map Ac.e,c.fs.map fun p=> .str p.1,c.fs.map fun p=>p.2.e,c.ns.map No.e,c.re,c.lo.length,c.nd,c.er,c.sc.map fun p=> .str p.1,c.sc.map fun p=>p.2.e,c.le.map fun p=> .str p.1,c.le.map fun p=> .bool p.2,c.lo.map Pa.e,c.ki.map fun p=> .int .i64 p.1,c.ki.map fun p=> .int .i64 p.2,c.va.map fun p=> .int .i64 p.1,c.va.map fun p=>p.2.e⟩
theorem oU (c:CS)(K:eC→R):aR c.k.hp K=K c.k:=rfl
def lI (o:Option Nat):Int:=match o with|some j=>j|none=> -1
end
end Go.Ab
end
section
namespace Go.Ab
open Go
noncomputable section
def iO (c:CS)(i e:Int):CS:=if c.er=0 then {c with nd:=i,er:=e}else c
def cn (c:CS)(i:Int)(b:Bool):CS:=if b=true then c else iO c i 15
def pM (c:CS)(s:List Nat):Option Vr:=match cY c.fs s with
 |some v=>some v
 |none=>cY c.sc s
def mj (c:CS)(i:Int)(s:List Nat):Vr×CS:=match pM c s with
 |some v=>(v,{c with va:=td c.va i v})
 |none=>(⟨0,0,false⟩,iO c i 14)
def m5 (c:CS)(s:List Nat)(k:Int):Option CS:=if c.lo.length<1000000 then some {c with sc:=nC c.sc s ⟨k,c.lo.length,false⟩,le:=nC c.le s true,lo:=c.lo++[⟨s,k⟩]}else none
def z7 (c:CS)(s:List Nat):Bool:=match cY c.fs s with
 |some _=>true
 |none=>match cY c.le s with
  |some b=>b
  |none=>false
def qR (c:CS)(i:Int)(n:No):CS:=if z7 c n.name=true then iO c i 7 else if c.lo.length=8 then iO c i 5 else c
def xV (c:CS)(i:Int)(n:No)(k:Int):Option CS:=match m5 (cn (qR c i n) i (decide (k=n.v.k))) n.name n.v.k with
 |some c=>some (mj c i n.name).2
 |none=>none
theorem qe {n:Nat}(c:CS)(i e:Int):evFn lay0.tab (n+1) 230 [.box 0 0,.p (.int .i64 i),.p (.int .i64 e)] c.k.hp=some (.tup [],(iO c i e).k.hp):=by
 apply abR n c.k i e;unfold I4 iO;rw[aV,dt];show(if c.er=0 then _ else _)=_;by_cases h:c.er=0
 ·rw[if_pos h,if_pos h];rfl
 ·rw[if_neg h,if_neg h]
theorem nE {n:Nat}(c:CS)(i:Int)(b:Bool):evFn lay0.tab (n+2) 184 [.box 0 0,.p (.int .i64 i),.p (.bool b)] c.k.hp=some (.tup [],(cn c i b).k.hp):=by
 apply abU (n+1) c.k i b;unfold I7 cn;cases b
 ·simp only[aS,aa (qe (n:=n) c i 15),bt,aA,oU];rfl
 ·rfl
theorem abE {n:Nat}(c:CS)(s:List Nat):evFn lay0.tab (n+1) 268 [.box 0 0,.p (.str s)] c.k.hp=some (.tup [.p ((pM c s).getD ⟨0,0,false⟩).e,.p (.bool (pM c s).isSome)],c.k.hp):=by
 apply abS n c.k s;unfold I5 pM;simp only[CS.k,lkS,dVr];cases cY c.fs s with
 |some v=>rfl
 |none=>cases cY c.sc s<;>rfl
theorem Qq {n:Nat}(c:CS)(i:Int)(s:List Nat):evFn lay0.tab (n+2) 233 [.box 0 0,.p (.int .i64 i),.p (.str s)] c.k.hp=some (.p (mj c i s).1.e,(mj c i s).2.k.hp):=by
 apply afo (n+1) c.k i s;unfold QC mj;simp only[aa (abE (n:=n) c s),bt,cg,aA,ba,dVr,aC,bp];cases pM c s with
 |none=>simp only[Option.isSome_none,aS,aa (qe (n:=n) c i 14),bt,aA,oU];rfl
 |some v=>
  simp only[Option.isSome_some,aP,Option.getD_some];exact upI c.va i Vr.e v fun ks vs=>some (.p v.e,eC.hp {c.k with vk:=ks,vv:=vs})
theorem CI {n b:Nat}(h:n<1000001)(hb:b≤1000):dM n b=true:=by
 unfold dM;rw[lδ,Nat.ble_eq,Nat.ble_eq];constructor
 ·calc (2*n+192)*b≤(2*1000001+192)*1000:=Nat.mul_le_mul (by omega) hb
   _≤281474976710656:=by decide
 ·omega
theorem ai4 {β γ:Type}(l:List (List Nat×β))(m:List (List Nat×γ))(s:List Nat)(e:β→Da)(v:β)(e':γ→Da)(w:γ)(G:List Da→List Da→List Da→List Da→R):
  (cL (bM .string (.str s) (l.map fun p=> .str p.1) 0) fun y=>eZ y
   (cL (bM .string (.str s) (m.map fun p=> .str p.1) 0) fun y=>eZ y
    (G ((l.map fun p=> .str p.1)++[.str s]) ((l.map fun p=>e p.2)++[e v]) ((m.map fun p=> .str p.1)++[.str s]) ((m.map fun p=>e' p.2)++[e' w])) fun n=>
    G ((l.map fun p=> .str p.1)++[.str s]) ((l.map fun p=>e p.2)++[e v]) (m.map fun p=> .str p.1) ((m.map fun p=>e' p.2).set n (e' w))) fun n=>
   (cL (bM .string (.str s) (m.map fun p=> .str p.1) 0) fun y=>eZ y
    (G (l.map fun p=> .str p.1) ((l.map fun p=>e p.2).set n (e v)) ((m.map fun p=> .str p.1)++[.str s]) ((m.map fun p=>e' p.2)++[e' w])) fun n'=>
    G (l.map fun p=> .str p.1) ((l.map fun p=>e p.2).set n (e v)) (m.map fun p=> .str p.1) ((m.map fun p=>e' p.2).set n' (e' w))))=
  G ((nC l s v).map fun p=> .str p.1) ((nC l s v).map fun p=>e p.2) ((nC m s w).map fun p=> .str p.1) ((nC m s w).map fun p=>e' p.2):=by
 have h1:=fun a b=>upS m s e' w (G a b)
 simp only[h1];exact upS l s e v fun a b=>G a b _ _
theorem C9 {n:Nat}(c c':CS)(s:List Nat)(k:Int)(h:m5 c s k=some c'):evFn lay0.tab (n+1) 127 [.box 0 0,.p (.str s),.p (.int .i64 k)] c.k.hp=some (.tup [],c'.k.hp):=by
 apply QZ n c.k s k;unfold m5 at h;by_cases hl:c.lo.length<1000000
 ·rw[if_pos hl]at h;simp only[lα]at h;subst h;unfold vi;have hb:dM (c.k.lo.length+List.length [Da.agg [Da.str s,Da.int .i64 k]]) 24=true:=CI (by simp[CS.k];omega) (by decide);have hn:Nat.beq c.k.ln c.k.lo.length=true:=by simp[CS.k]
  simp only[hb,hn,aP];refine(ai4 c.sc c.le s Vr.e ⟨k,c.lo.length,false⟩ Da.bool true fun a b d e=>some (.tup [],eC.hp {c.k with ln:=(c.k.lo++[Da.agg [Da.str s,Da.int .i64 k]]).length,sk:=a,sv:=b,lk:=d,lv:=e,lo:=c.k.lo++[Da.agg [Da.str s,Da.int .i64 k]]})).trans ?_;simp only[CS.k,mξ,lβ,List.length_cons,List.length_nil,List.map_append,List.map_cons,List.map_nil];rfl
 ·rw[if_neg hl]at h;cases h
theorem afj {n:Nat}(c c':CS)(i:Int)(x:No)(k:Int)(h:xV c i x k=some c'):evFn lay0.tab (n+3) 236 [.box 0 0,.p (.int .i64 i),.p x.e,.p (.int .i64 k)] c.k.hp=some (.tup [],c'.k.hp):=by
 apply afn (n+2) c.k i x.r k;unfold xV at h;split at h
 ·rename_i c3 h3;simp only[lα]at h;subst h;have tail:(bv lay0.tab (n+2) 184 [.box 0 0,.p (.int .i64 i),.p (.bool (aB k x.r.Value_Kind))] (qR c i x).k.hp fun d o=>aY d fun r=>aq r<|aR o fun u=>bv lay0.tab (n+2) 127 [.box 0 0,.p (.str x.r.Name),.p (.int .i64 x.r.Value_Kind)] u.hp fun d o=>aY d fun r=>aq r<|aR o fun u=>bv lay0.tab (n+2) 233 [.box 0 0,.p (.int .i64 i),.p (.str x.r.Name)] u.hp fun d o=>dP d fun y=>aT y fun v=>aR o fun u=>some (.tup [],u.hp))=some (.tup [],(mj c3 i x.name).2.k.hp):=by
   have e1:aB k x.r.Value_Kind=decide (k=x.v.k):=aV _ _;rw[e1];simp only[aa (nE (n:=n) (qR c i x) i _),bt,aA,oU];have e2:evFn lay0.tab (n+2) 127 [.box 0 0,.p (.str x.r.Name),.p (.int .i64 x.r.Value_Kind)] (cn (qR c i x) i (decide (k=x.v.k))).k.hp=some (.tup [],c3.k.hp):=C9 _ _ _ _ h3;simp only[aa e2,bt,aA,oU];have e3:evFn lay0.tab (n+2) 233 [.box 0 0,.p (.int .i64 i),.p (.str x.r.Name)] c3.k.hp=some (.p (mj c3 i x.name).1.e,(mj c3 i x.name).2.k.hp):=Qq (n:=n) _ _ _;simp only[aa e3,ba,dVr,oU]
  have f7:=qe (n:=n+1) c i 7;have f5:=qe (n:=n+1) c i 5;unfold qR at tail;have e0:aB (↑c.k.ln) 8=decide (c.lo.length=8):=by
   rw[aV];show decide ((c.lo.length:Int)=8)=_;rw[mθ,lη,lη];omega
  unfold QB;unfold z7 at tail;rw[e0];have hfs:∀(E:R) (K:Da→R),(cL (bM TypeDesc.string (Da.str x.r.Name) c.k.fk 0) fun y=>eZ y E fun n=>cL c.k.fv[n]? K)=mO (cY c.fs x.name) E fun v=>K v.e:=fun E K=>lkS c.fs x.name Vr.e E K
  have hle:∀(E:R) (K:Da→R),(cL (bM TypeDesc.string (Da.str x.r.Name) c.k.lk 0) fun y=>eZ y E fun n=>cL c.k.lv[n]? K)=mO (cY c.le x.name) E fun v=>K (.bool v):=fun E K=>lkS c.le x.name Da.bool E K
  rw[hle,hfs];cases hg:cY c.fs x.name with
  |some v=>
   simp only[hg,if_true]at tail;simp only[R6,dVr,aa f7,bt,aA,oU];exact tail
  |none=>
   simp only[hg]at tail;simp only[aaL];cases hh:cY c.le x.name with
   |some b=>
    simp only[hh]at tail;simp only[R6,aC];cases b
    ·simp only[Bool.false_eq_true,if_false]at tail;simp only[aS,dt];by_cases h8:c.lo.length=8
     ·rw[if_pos h8]at tail ⊢
      simp only[aa f5,bt,aA,oU];exact tail
     ·rw[if_neg h8]at tail ⊢
      exact tail
    ·simp only[if_true]at tail;simp only[aP,aa f7,bt,aA,oU];exact tail
   |none=>
    simp only[hh,Bool.false_eq_true,if_false]at tail;simp only[aaL,dt];by_cases h8:c.lo.length=8
    ·rw[if_pos h8]at tail ⊢
     simp only[aa f5,bt,aA,oU];exact tail
    ·rw[if_neg h8]at tail ⊢
     exact tail
 ·cases h
end
end Go.Ab
end
section
namespace Go.Ab
open Go
noncomputable section
def jR (pr:List Ac)(t m:List Nat):Option Me:=match pr.find? fun a=>decide (a.name=t)with
 |some a=>a.methods.find? fun x=>decide (x.name=m)
 |none=>none
theorem Qz {n:Nat}(a:Ac)(s:List Nat):evFn lay0.tab (n+1) 89 [.p a.e,.box 0 0] [.box [.p (.str s)]]=some (.p (.bool (decide (a.name=s))),[.box [.p (.str s)]]):=by
 apply Re n a.r s;unfold vw;show iL (aO a.name s) _ _=_;rw[dB];cases decide (a.name=s)<;>rfl
theorem QA {n:Nat}(a:Me)(s:List Nat):evFn lay0.tab (n+1) 91 [.p a.e,.box 0 0] [.box [.p (.str s)]]=some (.p (.bool (decide (a.name=s))),[.box [.p (.str s)]]):=by
 apply Rf n a.r s;unfold vx;show iL (aO a.name s) _ _=_;rw[dB];cases decide (a.name=s)<;>rfl
theorem U1 {n:Nat}(ts:List Ac)(s:List Nat)(h:ts.length<1000):evFn lay0.tab (n+1002) 81 [.p (.slice 3 (ts.map Ac.e)),.fn 89 [.box 0 0]] [.box [.p (.str s)]]=some (.p (.int .i64 (lI (ts.findIdx? fun t=>decide (t.name=s)))),[.box [.p (.str s)]]):=by
 apply VE (n+1001) (ts.map Ac.e) s;unfold zr;rw[lβ];refine(aX ts (fun q i=>nW _ (n+1001) _ _ q (ts.map Ac.e,(ts.length:Int),i,s)) (fun t=>decide (t.name=s)) (fun i=>some (.p (.int .i64 i),[.box [.p (.str s)]])) (some (.p (.int .i64 (-1)),[.box [.p (.str s)]])) (fun q i hi=>?_) (fun q=>?_) (by omega)).trans ?_
 ·rw[wQ];simp only[la,cT (show((i:Int)<(ts.length:Int)) by omega),aP,aE,aH,aG hi,be,HQ,wS (show i<cb by unfold cb;omega)];have:=Qz (n:=n+1000) ts[i] s;simp only[Ac.e]at this;simp only[aa this,ba,aC,bp];exact de _ _ _
 ·rw[wQ];simp only[la,bY,aS]
 ·cases ts.findIdx? fun t=>decide (t.name=s)<;>rfl
theorem U0 {n:Nat}(ts:List Me)(s:List Nat)(h:ts.length<1000):evFn lay0.tab (n+1002) 90 [.p (.slice 4 (ts.map Me.e)),.fn 91 [.box 0 0]] [.box [.p (.str s)]]=some (.p (.int .i64 (lI (ts.findIdx? fun t=>decide (t.name=s)))),[.box [.p (.str s)]]):=by
 apply VD (n+1001) (ts.map Me.e) s;unfold zq;rw[lβ];refine(aX ts (fun q i=>nV _ (n+1001) _ _ q (ts.map Me.e,(ts.length:Int),i,s)) (fun t=>decide (t.name=s)) (fun i=>some (.p (.int .i64 i),[.box [.p (.str s)]])) (some (.p (.int .i64 (-1)),[.box [.p (.str s)]])) (fun q i hi=>?_) (fun q=>?_) (by omega)).trans ?_
 ·rw[wP];simp only[kZ,cT (show((i:Int)<(ts.length:Int)) by omega),aP,aE,aH,aG hi,be,NK,wS (show i<cb by unfold cb;omega)];have:=QA (n:=n+1000) ts[i] s;simp only[Me.e]at this;simp only[aa this,ba,aC,bp];exact de _ _ _
 ·rw[wP];simp only[kZ,bY,aS]
 ·cases ts.findIdx? fun t=>decide (t.name=s)<;>rfl
theorem Hy {n:Nat}(pr:List Ac)(t m:List Nat)(h:pr.length<1000)(hm:∀a∈pr,a.methods.length<1000):evFn lay0.tab (n+1003) 54 [.p (.agg [.slice 3 (pr.map Ac.e)]),.p (.str t),.p (.str m)] []=some (.tup [.p ((jR pr t m).getD ⟨[],[],0,[]⟩).e,.p (.bool (jR pr t m).isSome)],[]):=by
 apply VP (n+1002) ⟨pr.map Ac.e⟩ t m;unfold zG jR;simp only[aa (U1 (n:=n) pr t h),ba,dI,bp,bz];rw[←hD];cases ht:pr.findIdx? (fun a=>decide (a.name=t))with
 |none=>rfl
 |some j=>
  have hj:j<pr.length:=(lσ.1 ht).1;simp only[lI,lγ hj];rw[Bq (by omega:¬(j:Int)<0),aS];simp only[aE,aH,aG hj,be,HQ];have hml:=hm _ (lι hj);have h2:=U0 (n:=n) pr[j].methods m hml;simp only[Ac.r];simp only[aa h2,ba,bz,bp];rw[←hD];cases hk:pr[j].methods.findIdx? (fun a=>decide (a.name=m))with
  |none=>rfl
  |some k=>
   have hk':k<pr[j].methods.length:=(lσ.1 hk).1;simp only[lI,lγ hk'];rw[Bq (by omega:¬(k:Int)<0),aS];simp only[aE,aH,aG hk',be,NK,Option.getD_some,Option.isSome_some];rfl
theorem ny {α:Type}[DecidableEq α](p:α→α→Bool){xs ys:List α}(hl:xs.length=ys.length)(hp:∀x y,p x y=decide (x=y)):(xs.zip ys).findIdx? (fun t=>!p t.1 t.2)=none↔xs=ys:=by
 induction xs generalizing ys with
 |nil=>cases ys with
  |nil=>simp
  |cons y ys=>simp at hl
 |cons x xs ih=>cases ys with
  |nil=>simp at hl
  |cons y ys=>
   simp only[List.length_cons,Nat.add_right_cancel_iff]at hl;simp only[List.zip_cons_cons,mτ,hp,lν];by_cases hxy:x=y
   ·simp only[hxy,decide_true,Bool.not_true,Bool.false_eq_true,if_false,true_and,Option.map_eq_none_iff];have:=ih hl;simp only[hp]at this;exact this
   ·simp[hxy]
theorem Di {n:Nat}(xs ys:List Int)(h:xs.length<1000):evFn lay0.tab (n+1002) 48 [.p (.slice 1 (xs.map iE)),.p (.slice 1 (ys.map iE))] []=some (.p (.bool (decide (xs=ys))),[]):=by
 apply XX (n+1001) (xs.map iE) (ys.map iE);simp only[DA,lβ,aV,cq];by_cases hl:xs.length=ys.length
 ·rw[if_pos (by omega)];refine(aX (xs.zip ys) (fun q i=>qy _ (n+1001) _ _ q (xs.map iE,ys.map iE,(xs.length:Int),i)) (fun t=>!aB t.1 t.2) (fun i=>some (.p (.bool false),[])) (some (.p (.bool true),[])) (fun q i hi=>?_) (fun q=>?_) (by simp[mι];omega)).trans ?_
  ·simp only[mι]at hi;rw[A4];simp only[mM,cT (show((i:Int)<(xs.length:Int)) by omega),aP,aE,aH,aG (show i<xs.length by omega),aG (show i<ys.length by omega),be,dI,wS (show i<cb by unfold cb;omega),List.getElem_zip];exact de _ _ _
  ·rw[A4];simp only[mM,mι,hl,Nat.min_self,bY,aS]
  ·have key:=ny aB hl aV;cases hf:(xs.zip ys).findIdx? (fun t=>!aB t.1 t.2)with
   |none=>simp[key.1 hf]
   |some j=>
    have:¬xs=ys:=fun e=>by rw[key.2 e]at hf;cases hf
    simp[this]
 ·rw[if_neg (by omega)];have:¬xs=ys:=fun e=>hl (by rw[e])
  simp[this]
theorem Xn {n:Nat}(k:Int)(p:Pa):evFn lay0.tab (n+1) 232 [.p (.int .i64 k),.p p.e] []=some (.p (.bool (decide (k=p.kind))),[]):=by
 apply XK n k p.r;unfold Dn;show iL (aB k p.kind) _ _=_;rw[aV];cases decide (k=p.kind)<;>rfl
theorem aeC {xs:List Int}{ps:List Pa}{i:Nat}(hi:i<(xs.zip (ps.map (·.kind))).length)(h1:i<xs.length)(h2:i<ps.length):(xs.zip (ps.map (·.kind)))[i]=(xs[i],ps[i].kind):=by simp
theorem IV {n:Nat}(xs:List Int)(ps:List Pa)(h:xs.length<1000):evFn lay0.tab (n+1002) 231 [.p (.slice 1 (xs.map iE)),.p (.slice 2 (ps.map Pa.e)),.p (.fn 232 [])] []=some (.p (.bool (decide (xs=ps.map (·.kind)))),[]):=by
 apply JH (n+1001) (xs.map iE) (ps.map Pa.e);simp only[qn,lβ,aV,cq];by_cases hl:xs.length=ps.length
 ·rw[if_pos (by omega)];refine(aX (xs.zip (ps.map (·.kind))) (fun q i=>jk _ (n+1001) _ _ q (ps.map Pa.e,xs.map iE,(xs.length:Int),i)) (fun t=>!aB t.1 t.2) (fun i=>some (.p (.bool false),[])) (some (.p (.bool true),[])) (fun q i hi=>?_) (fun q=>?_) (by simp[mι];omega)).trans ?_
  ·have hi':=hi;simp only[mι,lβ]at hi;rw[rn];have h1:i<xs.length:=by omega
   have h2:i<ps.length:=by omega
   simp only[fU,cT (show((i:Int)<(xs.length:Int)) by omega),aP,aE,aH,aG h1,aG h2,be,dI,ZH,wS (show i<cb by unfold cb;omega)];have:=Xn (n:=n+1000) xs[i] ps[i];simp only[Pa.e]at this;simp only[aa this,ba,aC,bp,aeC hi' h1 h2,aV];cases decide (xs[i]=ps[i].kind)<;>rfl
  ·rw[rn];simp only[fU,mι,lβ,hl,Nat.min_self,bY,aS]
  ·have key:=ny aB (ys:=ps.map (·.kind)) (by simpa using hl) aV;cases hf:(xs.zip (ps.map (·.kind))).findIdx? (fun t=>!aB t.1 t.2)with
   |none=>simp[key.1 hf]
   |some j=>
    have:¬xs=ps.map (·.kind):=fun e=>by rw[key.2 e]at hf;cases hf
    simp[this]
 ·rw[if_neg (by omega)];have:¬xs=ps.map (·.kind):=fun e=>hl (by rw[e];simp)
  simp[this]
def Rq (c:CS)(i:Int)(x:No)(ks:List Int):Option (Int×CS):=match jR c.pr x.name x.v.s with
 |none=>some (0,iO c i 14)
 |some m=>match ks with
  |[]=>none
  |k::r=>some (m.result,cn c i (decide (k=3)&&decide (r=m.params.map (·.kind))))
theorem abD {n:Nat}(c c':CS)(i k:Int)(x:No)(ks:List Int)(h:Rq c i x ks=some (k,c'))(hl:ks.length<1000)(h1:c.pr.length<1000)(h2:∀a∈c.pr,a.methods.length<1000):evFn lay0.tab (n+1004) 181 [.box 0 0,.p (.int .i64 i),.p x.e,.p (.slice 1 (ks.map iE))] c.k.hp=some (.p (.int .i64 k),c'.k.hp):=by
 apply abQ (n+1003) c.k i x.r (ks.map iE);unfold I3;have h3:=Hy (n:=n) c.pr x.name x.v.s h1 h2;show(bv lay0.tab (n+1003) 54 [.p (.agg [.slice 3 (c.pr.map Ac.e)]),.p (.str x.name),.p (.str x.v.s)] [] _)=_;simp only[aa h3,bt,cg,aA,ba,NK,aC,bp];unfold Rq at h;cases hq:jR c.pr x.name x.v.s with
 |none=>
  rw[hq]at h;simp only[lα,lε]at h;obtain⟨rfl,rfl⟩:=h;have f:=qe (n:=n+1002) c i 14;simp only[Option.isSome_none,aS,aa f,bt,aA,oU]
 |some m=>
  rw[hq]at h;simp only[Option.isSome_some,aP,Option.getD_some];cases ks with
  |nil=>cases h
  |cons k0 r=>
   simp only[lα,lε]at h;obtain⟨rfl,rfl⟩:=h;have hle:bx 1 (((k0::r).map iE).length:Int)=true:=by rw[bJ];simp;omega
   have hsl:List.take (((k0::r).map iE).length - Int.toNat 1) (List.drop (Int.toNat 1) ((k0::r).map iE))=r.map iE:=by
    show List.take ((r.map iE).length+1 - 1) (r.map iE)=_;rw[Nat.add_sub_cancel,List.take_length]
   rw[hle,hsl,aP];have hr:r.length<1000:=by simp only[List.length_cons]at hl;omega
   have q:=IV (n:=n+1) r m.params hr;have at0:bw ((k0::r).map iE) 0=some (iE k0):=rfl;rw[at0];simp only[be,dI,Me.r];simp only[aa q,ba,aC,bp,aV];have w:=fun b=>nE (n:=n+1001) c i b
   simp only[aa (w _),bt,aA,oU];cases decide (k0=3)<;>cases decide (r=m.params.map (·.kind))<;>rfl
def En (s:List Nat)(x y:Int):Int×Bool:=
 bif aO s [38,38]then(2,aB x y&&aB x 2)else bif aO s [124,124]then(2,aB x y&&aB x 2)else
 bif aO s [60]then(2,aB x y&&(aB x 1||aB x 3))else bif aO s [60,61]then(2,aB x y&&(aB x 1||aB x 3))else
 bif aO s [62]then(2,aB x y&&(aB x 1||aB x 3))else bif aO s [62,61]then(2,aB x y&&(aB x 1||aB x 3))else
 bif aO s [43]then(x,aB x y&&(aB x 1||aB x 3))else
 bif aO s [45]then(1,aB x y&&aB x 1)else bif aO s [42]then(1,aB x y&&aB x 1)else bif aO s [47]then(1,aB x y&&aB x 1)else bif aO s [37]then(1,aB x y&&aB x 1)else(2,aB x y)
theorem UO {n:Nat}(c:CS)(i:Int)(s:List Nat)(x y:Int):evFn lay0.tab (n+3) 234 [.box 0 0,.p (.int .i64 i),.p (.str s),.p (.int .i64 x),.p (.int .i64 y)] c.k.hp=some (.p (.int .i64 (En s x y).1),(cn c i (En s x y).2).k.hp):=by
 apply Vm (n+2) c.k i s x y;unfold zf En;have w:=fun(c:CS) (b:Bool)=>nE (n:=n) c i b
 have wt:=w c true;have wf:=w c false;simp only[iJ,dy,oi,dz,aa wt,aa wf,bt,aA,oU];cases aO s [38,38];rotate_left
 ·cases aB x y<;>cases aB x 2<;>rfl
 cases aO s [124,124];rotate_left
 ·cases aB x y<;>cases aB x 2<;>rfl
 cases aO s [60];rotate_left
 ·cases aB x y<;>cases aB x 1<;>cases aB x 3<;>rfl
 cases aO s [60,61];rotate_left
 ·cases aB x y<;>cases aB x 1<;>cases aB x 3<;>rfl
 cases aO s [62];rotate_left
 ·cases aB x y<;>cases aB x 1<;>cases aB x 3<;>rfl
 cases aO s [62,61];rotate_left
 ·cases aB x y<;>cases aB x 1<;>cases aB x 3<;>rfl
 cases aO s [43];rotate_left
 ·cases aB x y<;>cases aB x 1<;>cases aB x 3<;>rfl
 cases aO s [45];rotate_left
 ·cases aB x y<;>cases aB x 1<;>rfl
 cases aO s [42];rotate_left
 ·cases aB x y<;>cases aB x 1<;>rfl
 cases aO s [47];rotate_left
 ·cases aB x y<;>cases aB x 1<;>rfl
 cases aO s [37];rotate_left
 ·cases aB x y<;>cases aB x 1<;>rfl
 cases aB x y<;>rfl
end
end Go.Ab
end
section
namespace Go.Ab
open Go
set_option maxRecDepth 100000
noncomputable section
def Ax (c:Int):Bool:=(bx 97 c&&bx c 122)||((bx 65 c&&bx c 90)||aB c 95)
def NP (c:Int):Bool:=bx 48 c&&bx c 57
def Qe (c:Int):Bool:=Ax c||NP c
def WF (s:List Nat):Bool:=[[97,99,116,111,114],[115,116,97,116,101],[109,101,116,104,111,100],[108,101,116],[105,102],[101,108,115,101],[119,104,105,108,101],[114,101,116,117,114,110],[102,97,105,108],[99,97,108,108],[101,109,105,116],[114,101,109,105,110,100],[99,97,110,99,101,108],[115,101,108,102],[116,114,117,101],[102,97,108,115,101],[105,110,116],[98,111,111,108],[115,116,114,105,110,103],[105,110,116,115],[115,116,114,105,110,103,115]].any fun t=>aO s t
theorem bE (a x y:Bool):iL a (some ((.p (.bool x)),[])) (some ((.p (.bool y)),[]))=some ((.p (.bool (bif a then x else y))),[]):=by cases a<;>rfl
theorem dW (a:Bool):(bif a then true else false)=a:=by cases a<;>rfl
theorem acx (a:Bool):(bif a then false else true)=!a:=by cases a<;>rfl
theorem gu (a b:Bool):(bif a then b else false)=(a&&b):=by cases a<;>rfl
theorem V6 (a b:Bool):(bif a then true else b)=(a||b):=by cases a<;>rfl
theorem ahA (a b:Bool):(bif a then false else b)=(!a&&b):=by cases a<;>rfl
theorem pI {α:Type}(l:List α)(p:α→Bool):(l.all fun x=>!p x)=(l.findIdx? p).isNone:=by
 rw[mθ,mη,Option.isNone_iff_eq_none,mχ];simp
theorem z0 (s:List Nat)(K:List Nat→R):gZ (Da.str s) K=K s:=rfl
theorem Xq {n:Nat}(c:Int):evFn lay0.tab (n+1) 165 [.p (.int .u8 c)] []=some (.p (.bool (NP c)),[]):=by
 apply XP n c;simp only[Dr,bE,dW,gu,Bool.and_true,NP]
theorem Hv {n:Nat}(c:Int):evFn lay0.tab (n+1) 204 [.p (.int .u8 c)] []=some (.p (.bool (Ax c)),[]):=by
 apply Vp n c;unfold zh Ax;cases bx 97 c<;>cases bx c 122<;>cases bx 65 c<;>cases bx c 90<;>cases aB c 95<;>rfl
theorem Xr {n:Nat}(c:Int):evFn lay0.tab (n+2) 205 [.p (.int .u8 c)] []=some (.p (.bool (Qe c)),[]):=by
 apply XQ (n+1) c;simp only[Ds,aa (Hv (n:=n) c),aa (Xq (n:=n) c),ba,aC,aA,bE,dW,V6,Bool.or_false,Qe]
theorem IR {n:Nat}(s:List Nat):evFn lay0.tab (n+1) 164 [.p (.str s)] []=some (.p (.bool (WF s)),[]):=by
 apply JB n s;simp only[qg,bE,dW,V6,WF,List.any_cons,List.any_nil,Bool.or_false]
def Ud (c:Nat):Bool:=!Qe (c:Int)
def aeo (s:List Nat):Nat:=(s.findIdx? Ud).getD s.length
theorem afk {n:Nat}(s:List Nat)(h:s.length<1000):evFn lay0.tab (n+1003) 161 [.p (.str s),.p (.fn 205 [])] []=some (.p (.int .i64 (aeo s)),[]):=by
 apply afp (n+1002) s;unfold QD aeo;refine(aX s (fun q i=>wE _ (n+1002) _ q (s,i)) Ud (fun i=>some (.p (.int .i64 i),[])) (some (.p (.int .i64 s.length),[])) (fun q i hi=>?_) (fun q=>?_) (by omega)).trans ?_
 ·rw[HC];simp only[sA,cT (show((i:Int)<(s.length:Int)) by omega),aP,bJ,show(0:Int)≤(i:Int) by omega,decide_true,cond_true,Int.toNat_natCast,lγ hi,be,wS (show i<cb by unfold cb;omega),show ∀k:Nat,Int.ofNat k=(k:Int)from fun _=>rfl,aa (Xr (n:=n+1000) _),ba,aC,bp];unfold Ud;cases Qe (s[i]:Int)<;>rfl
 ·rw[HC];simp only[sA,bY,aS]
 ·cases s.findIdx? Ud<;>rfl
def UK (s:List Nat):Nat:=bif Ax ((s.headD 0:Nat):Int)then aeo s else 0
theorem abJ {n:Nat}(s:List Nat)(h:s.length<1000):evFn lay0.tab (n+1004) 163 [.p (.str s)] []=some (.p (.int .i64 (UK s)),[]):=by
 apply abZ (n+1003) s;unfold Jc UK;cases s with
 |nil=>rfl
 |cons c r=>
  simp only[show aO (c::r) []=false from rfl,aS,show bx 0 0=true from rfl,cond_true,Int.toNat_zero,List.getElem?_cons_zero,be,show ∀k:Nat,Int.ofNat k=(k:Int)from fun _=>rfl,aa (Hv (n:=n+1002) _),aa (afk (n:=n) _ h),ba,aC,bz,aA,List.headD_cons];cases Ax (c:Int)<;>rfl
def cU (s:List Nat):Bool:=!aO s []&&(bx s.length 32&&(aB (UK s) s.length&&!WF s))
theorem mo {n:Nat}(s:List Nat):evFn lay0.tab (n+1005) 121 [.p (.str s)] []=some (.p (.bool (cU s)),[]):=by
 apply Vo (n+1004) s;by_cases h:s.length<1000
 ·simp only[tI,aa (abJ (n:=n) _ h),aa (IR (n:=n+1003) s),ba,aC,bz,aA,bE,acx,gu,cU]
 ·have:bx (s.length:Int) 32=false:=by rw[bJ];simp only[mγ];omega
  simp only[tI,cU,this,aS,Bool.false_and,Bool.and_false];cases aO s []<;>rfl
def hO (k:Int):Bool:=bx 1 k&&bx k 5
theorem tG {n:Nat}(k:Int):evFn lay0.tab (n+1) 174 [.p (.int .i64 k)] []=some (.p (.bool (hO k)),[]):=by
 apply VM n k;simp only[zD,bE,dW,gu,hO,Bool.and_true]
theorem XE {n:Nat}(xs ys:List Int)(h:xs.length<1000):evFn lay0.tab (n+1002) 292 [.p (.slice 1 (xs.map iE)),.p (.slice 1 (ys.map iE))] []=some (.p (.bool (decide (xs=ys))),[]):=by
 apply X6 (n+1001) (xs.map iE) (ys.map iE);unfold DJ;simp only[lβ,aV,cq];by_cases hl:(xs.length:Int)=ys.length
 ·rw[if_pos hl];have hl':xs.length=ys.length:=by omega
  refine(aX (xs.zip ys) (fun q i=>qz _ (n+1001) _ _ q (xs.map iE,ys.map iE,(xs.length:Int),i)) (fun p=>!decide (p.1=p.2)) (fun i=>some (.p (.bool false),[])) (some (.p (.bool true),[])) (fun q i hi=>?_) (fun q=>?_) (by simp;omega)).trans ?_
  ·have hx:i<xs.length:=by simp at hi;omega
   have hy:i<ys.length:=by omega
   rw[A8];simp only[mR,cT (show((i:Int)<(xs.length:Int)) by omega),aP,aE,aH,aG hx,aG hy,be,dI,wS (show i<cb by unfold cb;omega),List.getElem_zip,aV];exact de _ _ _
  ·rw[A8];simp only[mR,show((xs.zip ys).length:Int)=xs.length by simp;omega,bY,aS]
  ·have:decide (xs=ys)=((xs.zip ys).all fun p=>!(!decide (p.1=p.2))):=by
    rw[mθ,mη,lη];constructor
    ·rintro rfl p hp
     obtain⟨i,hi,rfl⟩:=qα hp;simp
    ·intro ha;refine List.ext_getElem hl' fun i h1 h2=>?_
     have:=ha (xs[i],ys[i]) (by rw[←List.getElem_zip (h:=by simp;omega)];exact lι _);simpa using this
   rw[this,pI];cases(xs.zip ys).findIdx? fun p=>!decide (p.1=p.2)<;>rfl
 ·rw[if_neg hl];rw[lω (by rintro rfl;exact hl rfl)]
theorem XF {n:Nat}(xs ys:List (List Nat))(h:xs.length<1000):evFn lay0.tab (n+1002) 293 [.p (.slice 1 (xs.map .str)),.p (.slice 1 (ys.map .str))] []=some (.p (.bool (decide (xs=ys))),[]):=by
 apply X7 (n+1001) (xs.map .str) (ys.map .str);unfold DK;simp only[lβ,aV,cq];by_cases hl:(xs.length:Int)=ys.length
 ·rw[if_pos hl];have hl':xs.length=ys.length:=by omega
  refine(aX (xs.zip ys) (fun q i=>qA _ (n+1001) _ _ q (xs.map .str,ys.map .str,(xs.length:Int),i)) (fun p=>!decide (p.1=p.2)) (fun i=>some (.p (.bool false),[])) (some (.p (.bool true),[])) (fun q i hi=>?_) (fun q=>?_) (by simp;omega)).trans ?_
  ·have hx:i<xs.length:=by simp at hi;omega
   have hy:i<ys.length:=by omega
   rw[A9];simp only[mS,cT (show((i:Int)<(xs.length:Int)) by omega),aP,aE,aH,aG hx,aG hy,be,z0,wS (show i<cb by unfold cb;omega),List.getElem_zip,dB];exact de _ _ _
  ·rw[A9];simp only[mS,show((xs.zip ys).length:Int)=xs.length by simp;omega,bY,aS]
  ·have:decide (xs=ys)=((xs.zip ys).all fun p=>!(!decide (p.1=p.2))):=by
    rw[mθ,mη,lη];constructor
    ·rintro rfl p hp
     obtain⟨i,hi,rfl⟩:=qα hp;simp
    ·intro ha;refine List.ext_getElem hl' fun i h1 h2=>?_
     have:=ha (xs[i],ys[i]) (by rw[←List.getElem_zip (h:=by simp;omega)];exact lι _);simpa using this
   rw[this,pI];cases(xs.zip ys).findIdx? fun p=>!decide (p.1=p.2)<;>rfl
 ·rw[if_neg hl];rw[lω (by rintro rfl;exact hl rfl)]
def ct {α:Type}(l:List α):Int:=(l.length:Int)
def Ns (v:Va):Bool:=aU v.k 0||aU 5 v.k
def Nt (v:Va):Bool:=!aB v.n 0&&(!aB v.k 1&&(!aB v.k 2||!aB v.n 1))
def Yw (v:Va):Bool:=(!aO v.s []&&!aB v.k 3)||((aU 0 (ct v.I)&&!aB v.k 4)||(aU 0 (ct v.L)&&!aB v.k 5))
def Nu (v:Va):Bool:=aU 64 (ct v.s)||(aU 16 (ct v.I)||aU 16 (ct v.L))
def Mg (v:Va):Bool:=!Ns v&&(!Nt v&&(!Yw v&&(!Nu v&&v.L.all fun t=>!aU 64 (ct t))))
def Va.c (v:Va):List Da:=[.int .i64 v.k,.int .i64 v.n,.str v.s,.slice 1 (v.I.map iE),.slice 1 (v.L.map .str)]
def jS (a b:Va):Bool:=aB a.k b.k&&(aB a.n b.n&&(aO a.s b.s&&(decide (a.I=b.I)&&decide (a.L=b.L))))
def Va.r (v:Va):aL:=⟨v.k,v.n,v.s,v.I.map iE,v.L.map .str⟩
theorem abN {n:Nat}(a b:Va)(hi:a.I.length<1000)(hl:a.L.length<1000):evFn lay0.tab (n+1003) 264 [.p (.agg a.c),.p (.agg b.c)] []=some (.p (.bool (jS a b)),[]):=by
 apply ab9 (n+1002) a.r b.r;unfold Jm;show iL (aB a.k b.k) _ _=_;have h1:=aa (XE (n:=n) a.I b.I hi);have h2:=aa (XF (n:=n) a.L b.L hl);simp only[Va.r,h1,h2,ba,aC,aA,bE,dW,gu,jS,Bool.and_true]
theorem IX {n:Nat}(a b:Va)(hi:a.I.length<1000)(hl:a.L.length<1000):evFn lay0.tab (n+1004) 226 [.p (.agg a.c),.p (.agg b.c)] []=some (.p (.bool (jS a b)),[]):=by
 apply ab6 (n+1003) a.r b.r;unfold Jj;have h:=aa (abN (n:=n) a b hi hl);simp only[Va.c]at h;show bv lay0.tab (n+1003) 264 [.p (.agg _),.p (.agg _)] [] _=_;simp only[Va.r]at h ⊢
 simp only[h,ba,aC,aA,bE,dW]
section
variable (cc:ae) (n:Nat) (k0:Bool×aL→R) (v:Va)
theorem vw1:qB cc n k0 v.r=k0 (Ns v,v.r):=by
 unfold qB Ns;show iL (aU v.k 0) _ (iL (aU 5 v.k) _ _)=_;cases aU v.k 0<;>cases aU 5 v.k<;>rfl
theorem vw2:qC cc n k0 v.r=k0 (Nt v,v.r):=by
 unfold qC Nt;show iL (!aB v.n 0) (iL (!aB v.k 1) (iL (!aB v.k 2) _ (iL (!aB v.n 1) _ _)) _) _=_;cases aB v.n 0<;>cases aB v.k 1<;>cases aB v.k 2<;>cases aB v.n 1<;>rfl
theorem vw3:qD cc n k0 v.r=k0 (!aO v.s []&&!aB v.k 3,v.r):=by
 unfold qD;show iL (!aO v.s []) (iL (!aB v.k 3) _ _) _=_;cases aO v.s []<;>cases aB v.k 3<;>rfl
theorem vw4:j1 cc n k0 v.r=k0 (Nu v,v.r):=by
 unfold j1 Nu ct;show iL (aU 64 (v.s.length:Int)) _ (iL (aU 16 ((v.I.map iE).length:Int)) _ (iL (aU 16 ((v.L.map Da.str).length:Int)) _ _))=_;simp only[lβ];cases aU 64 (v.s.length:Int)<;>cases aU 16 (v.I.length:Int)<;>cases aU 16 (v.L.length:Int)<;>rfl
theorem vw6:qE cc n k0 v.r=k0 (aU 0 (ct v.I)&&!aB v.k 4,v.r):=by
 unfold qE ct;show iL (aU 0 ((v.I.map iE).length:Int)) (iL (!aB v.k 4) _ _) _=_;simp only[lβ];cases aU 0 (v.I.length:Int)<;>cases aB v.k 4<;>rfl
theorem vw7:qF cc n k0 v.r=k0 (aU 0 (ct v.L)&&!aB v.k 5,v.r):=by
 unfold qF ct;show iL (aU 0 ((v.L.map Da.str).length:Int)) (iL (!aB v.k 5) _ _) _=_;simp only[lβ];cases aU 0 (v.L.length:Int)<;>cases aB v.k 5<;>rfl
end
theorem Mu {n:Nat}(v:Va)(h:v.L.length<1000):evFn lay0.tab (n+1002) 71 [.p (.agg v.c)] []=some (.p (.bool (Mg v)),[]):=by
 apply X5 (n+1001) v.r;have hl:eb (bv lay0.tab (n+1001)) (n+1001) (some (.p (.bool false),[])) (fun(l18,i19,i20)=>some (.p (.bool true),[])) (n+1001) (v.L.map .str,(v.L.length:Int),0)=some (.p (.bool (v.L.all fun t=>!aU 64 (ct t))),[]):=by
  refine(aX v.L (fun q i=>eb _ (n+1001) _ _ q (v.L.map .str,(v.L.length:Int),i)) (fun t=>aU 64 (ct t)) (fun i=>some (.p (.bool false),[])) (some (.p (.bool true),[])) (fun q i hi=>?_) (fun q=>?_) (by omega)).trans ?_
  ·rw[A7];simp only[mQ,cT (show((i:Int)<(v.L.length:Int)) by omega),aP,aE,aH,aG hi,be,z0,wS (show i<cb by unfold cb;omega)];exact de _ _ _
  ·rw[A7];simp only[mQ,bY,aS]
  ·rw[pI];cases v.L.findIdx? fun t=>aU 64 (ct t)<;>rfl
 unfold DI Mg Yw;simp only[vw1,vw2,vw3,vw4,vw6,vw7];show iL _ _ (iL _ _ (iL _ (iL _ _ (iL _ _ (eb _ _ _ _ _ (v.L.map .str,((v.L.map Da.str).length:Int),0)))) (iL _ (iL _ _ (iL _ _ (eb _ _ _ _ _ (v.L.map .str,((v.L.map Da.str).length:Int),0)))) (iL _ _ (iL _ _ (eb _ _ _ _ _ (v.L.map .str,((v.L.map Da.str).length:Int),0)))))))=_;rw[lβ,hl];cases Ns v<;>cases Nt v<;>cases(!aO v.s []&&!aB v.k 3)<;>cases(aU 0 (ct v.I)&&!aB v.k 4)<;>cases(aU 0 (ct v.L)&&!aB v.k 5)<;>cases Nu v<;>rfl
theorem Xt {n:Nat}(xs:List Int)(y:Int)(h:xs.length<1000):evFn lay0.tab (n+1003) 175 [.p (.slice 1 (xs.map iE)),.p (.int .i64 y)] []=some (.p (.bool (xs.any fun x=>aB y x)),[]):=by
 have hi:evFn lay0.tab (n+1002) 218 [.p (.slice 1 (xs.map iE)),.p (.int .i64 y)] []=some (.p (.int .i64 (lI (xs.findIdx? fun x=>aB y x))),[]):=by
  apply ab2 (n+1001) (xs.map iE) y;unfold Jf;rw[lβ];refine(aX xs (fun q i=>tR _ (n+1001) _ _ q (xs.map iE,y,(xs.length:Int),i)) (fun x=>aB y x) (fun i=>some (.p (.int .i64 i),[])) (some (.p (.int .i64 (-1)),[])) (fun q i hi=>?_) (fun q=>?_) (by omega)).trans ?_
  ·rw[D9];simp only[pF,cT (show((i:Int)<(xs.length:Int)) by omega),aP,aE,aH,aG hi,be,dI,wS (show i<cb by unfold cb;omega)];exact de _ _ _
  ·rw[D9];simp only[pF,bY,aS]
  ·cases xs.findIdx? fun x=>aB y x<;>rfl
 apply XT (n+1002) (xs.map iE) y;unfold Dw;simp only[aa hi,ba,bz,aA];rw[←List.findIdx?_isSome];cases xs.findIdx? fun x=>aB y x with
 |none=>rfl
 |some j=>simp[lI,bJ,aP]
theorem Xv {n:Nat}(xs:List (List Nat))(y:List Nat)(h:xs.length<1000):evFn lay0.tab (n+1003) 227 [.p (.slice 1 (xs.map .str)),.p (.str y)] []=some (.p (.bool (xs.any fun x=>aO y x)),[]):=by
 have hi:evFn lay0.tab (n+1002) 265 [.p (.slice 1 (xs.map .str)),.p (.str y)] []=some (.p (.int .i64 (lI (xs.findIdx? fun x=>aO y x))),[]):=by
  apply ab3 (n+1001) (xs.map .str) y;unfold Jg;rw[lβ];refine(aX xs (fun q i=>tS _ (n+1001) _ _ q (xs.map .str,y,(xs.length:Int),i)) (fun x=>aO y x) (fun i=>some (.p (.int .i64 i),[])) (some (.p (.int .i64 (-1)),[])) (fun q i hi=>?_) (fun q=>?_) (by omega)).trans ?_
  ·rw[Ea];simp only[pG,cT (show((i:Int)<(xs.length:Int)) by omega),aP,aE,aH,aG hi,be,z0,wS (show i<cb by unfold cb;omega)];exact de _ _ _
  ·rw[Ea];simp only[pG,bY,aS]
  ·cases xs.findIdx? fun x=>aO y x<;>rfl
 apply XV (n+1002) (xs.map .str) y;unfold Dy;simp only[aa hi,ba,bz,aA];rw[←List.findIdx?_isSome];cases xs.findIdx? fun x=>aO y x with
 |none=>rfl
 |some j=>simp[lI,bJ,aP]
end
end Go.Ab
end
section
namespace Go.Ab
open Go
set_option maxRecDepth 100000
noncomputable section
theorem Xe (c:CS)(i:Int)(a b:Bool):cn (cn c i a) i b=cn c i (a&&b):=by
 cases a
 ·cases b
  ·simp only[cn,Bool.false_and,Bool.false_eq_true,if_false,iO];by_cases h:c.er=0
   ·simp only[if_pos h];rfl
   ·simp only[if_neg h]
  ·rfl
 ·rfl
abbrev Sg:=List Int×Int
def sgE (g:Sg):Da:= .agg [.slice 1 (g.1.map iE),.int .i64 g.2]
def P8 (s:List Nat):Option (List Sg):=
 bif aO s [108,101,110]then some [([3],1),([4],1),([5],1)]else
 bif aO s [97,116]then some [([4,1],1),([5,1],3)]else
 bif aO s [97,112,112,101,110,100]then some [([4,1],4),([5,3],5)]else
 bif aO s [115,101,116]then some [([4,1,1],4),([5,1,3],5)]else
 bif aO s [115,116,114]then some [([1],3)]else none
def Ht (ks:List Int)(o:Option (List Sg)):Int×Int:=match o with
 |none=>(0,14)
 |some l=>match l.find? fun g=>decide (g.1=ks)with
  |some g=>(g.2,0)
  |none=>(0,15)
def fY (s:List Nat)(ks:List Int):Int×Int:=
 bif aO s [105,110,116,115]then(4,if(ks.all fun k=>aB k 1)=true then 0 else 15)else
 bif aO s [115,116,114,105,110,103,115]then(5,if(ks.all fun k=>aB k 3)=true then 0 else 15)else Ht ks (P8 s)
def Ae (c:CS)(i e:Int):CS:=if e=0 then c else iO c i e
theorem Qd (c:CS)(i:Int)(b:Bool):Ae c i (if b=true then 0 else 15)=cn c i b:=by cases b<;>rfl
theorem Rk {n:Nat}(k0:jV→R)(i el kd:Int)(ks:List Int)(hl:ks.length<1000):∀(d q j:Nat) (c:CS),j+d=ks.length→d<q→io (bv lay0.tab (n+2)) (n+2) k0 q (i,el,kd,ks.map iE,(ks.length:Int),(j:Int),c.k)=k0 (i,el,kd,ks.map iE,(ks.length:Int),(ks.length:Int),(cn c i ((ks.drop j).all fun k=>aB k el)).k)
 |0,q+1,j,c,h,_=>by
  obtain rfl:j=ks.length:=by omega
  rw[A0];simp only[mI,bY,aS,List.drop_length,List.all_nil];rfl
 |d+1,q+1,j,c,h,hq=>by
  have hj:j<ks.length:=by omega
  rw[A0];have w:=fun b=>nE (n:=n) c i b
  simp only[mI,cT (show((j:Int)<(ks.length:Int)) by omega),aP,aE,aH,aG hj,be,dI,wS (show j<cb by unfold cb;omega),aa (w true),aa (w false),bt,aA,oU];rw[lμ hj,List.all_cons,←Xe];rw[Rk k0 i el kd ks hl d q (j+1) _ (by omega) (by omega),Rk k0 i el kd ks hl d q (j+1) _ (by omega) (by omega)];cases aB ks[j] el<;>rfl
theorem dSg (g:Sg)(K:co→R):dY (sgE g) K=K ⟨g.1.map iE,g.2⟩:=rfl
theorem afz {n:Nat}(c:CS)(i:Int)(ks:List Int)(gs:List Sg)(hg:∀g∈gs,g.1.length<1000)(hl:gs.length<1000)(k0:Int×eC×co→R)(k1:jW→R):ea (bv lay0.tab (n+1002)) (n+1002) k0 k1 (n+1002) (i,ks.map iE,gs.map sgE,(gs.length:Int),0,c.k)=match gs.find? fun g=>decide (g.1=ks)with
  |some g=>k0 (g.2,c.k,⟨g.1.map iE,g.2⟩)
  |none=>k1 (i,ks.map iE,gs.map sgE,(gs.length:Int),(gs.length:Int),c.k):=by
 refine(aX gs (fun q j=>ea _ (n+1002) k0 k1 q (i,ks.map iE,gs.map sgE,(gs.length:Int),j,c.k)) (fun g=>decide (g.1=ks)) (fun j=>match gs[j]? with|some g=>k0 (g.2,c.k,⟨g.1.map iE,g.2⟩)|none=>none) (k1 (i,ks.map iE,gs.map sgE,(gs.length:Int),(gs.length:Int),c.k)) (fun q j hj=>?_) (fun q=>?_) (by omega)).trans ?_
 ·rw[A1];simp only[mJ,cT (show((j:Int)<(gs.length:Int)) by omega),aP,aE,aH,aG hj,be,dSg,wS (show j<cb by unfold cb;omega)];have e:=Di (n:=n) gs[j].1 ks (hg _ (lι hj));simp only[aa e,ba,aC,bp,lγ hj];exact de _ _ _
 ·rw[A1];simp only[mJ,bY,aS]
 ·rw[←hD];cases h:gs.findIdx? (fun g=>decide (g.1=ks))with
  |none=>rfl
  |some j=>
   have hj:j<gs.length:=(lσ.1 h).1;simp only[lγ hj]
theorem Qp {n:Nat}:evFn lay0.tab (n+1) 269 [] []=some (acr,[]):=QY n _ rfl
theorem Xl {n:Nat}(c:CS)(i:Int)(s:List Nat)(ks:List Int)(hl:ks.length<1000):evFn lay0.tab (n+1003) 235 [.box 0 0,.p (.int .i64 i),.p (.str s),.p (.slice 1 (ks.map iE))] c.k.hp=some (.p (.int .i64 (fY s ks).1),(Ae c i (fY s ks).2).k.hp):=by
 apply XI (n+1002) c.k i s (ks.map iE);unfold Dl fY;have a1:=fun(el kd:Int) (k0:jV→R)=>Rk (n:=n+1000) k0 i el kd ks hl ks.length (n+1002) 0 c (by omega) (by omega)
 simp only[List.drop_zero,Int.ofNat_zero,show((0:Nat):Int)=0 from rfl]at a1;have f14:=qe (n:=n+1001) c i 14;have f15:=qe (n:=n+1001) c i 15;have a2:=fun(gs:List Sg) (hg:∀g∈gs,g.1.length<1000) (hl:gs.length<1000)=>afz (n:=n) c i ks gs hg hl
 have fin:∀(gs:List Sg) (hg:∀g∈gs,g.1.length<1000) (hl:gs.length<1000) (k1:jW→R),(∀x,k1 (i,ks.map iE,gs.map sgE,x,x,c.k)=some (.p (.int .i64 0),(iO c i 15).k.hp))→ea (bv lay0.tab (n+1002)) (n+1002) (fun(i60,u61,u62)=>some ((.p (.int .i64 i60)),u61.hp)) k1 (n+1002) (i,ks.map iE,gs.map sgE,(gs.length:Int),0,c.k)=some (.p (.int .i64 (Ht ks (some gs)).1),(Ae c i (Ht ks (some gs)).2).k.hp):=by
  intro gs hg hl k1 hk;rw[a2 gs hg hl];unfold Ht;simp only;cases gs.find? (fun g=>decide (g.1=ks))with
  |some g=>rfl
  |none=>exact hk _
 rw[lβ];cases h1:aO s [105,110,116,115]
 ·simp only[aS,cond_false];cases h2:aO s [115,116,114,105,110,103,115]
  ·simp only[aS,cond_false,aa (Qp (n:=n+1001)),acr,ZI,bp];unfold P8;cases aO s [108,101,110];rotate_left
   ·exact fin [([3],1),([4],1),([5],1)] (by decide) (by decide) _ fun x=>by simp only[aa f15,bt,aA,oU]
   cases aO s [97,116];rotate_left
   ·exact fin [([4,1],1),([5,1],3)] (by decide) (by decide) _ fun x=>by simp only[aa f15,bt,aA,oU]
   cases aO s [97,112,112,101,110,100];rotate_left
   ·exact fin [([4,1],4),([5,3],5)] (by decide) (by decide) _ fun x=>by simp only[aa f15,bt,aA,oU]
   cases aO s [115,101,116];rotate_left
   ·exact fin [([4,1,1],4),([5,1,3],5)] (by decide) (by decide) _ fun x=>by simp only[aa f15,bt,aA,oU]
   cases aO s [115,116,114];rotate_left
   ·exact fin [([1],3)] (by decide) (by decide) _ fun x=>by simp only[aa f15,bt,aA,oU]
   simp only[aS,cond_false,aa f14,bt,aA,oU];rfl
  ·simp only[aP,cond_true,a1,Qd]
 ·have hs:s=[105,110,116,115]:=by rw[dB]at h1;exact of_decide_eq_true h1
  subst hs;have h2:aO [105,110,116,115] [115,116,114,105,110,103,115]=false:=rfl;simp only[aP,cond_true,h2,aS,a1,Qd]
def EF (c:CS)(i:Int)(x:No)(ks:List Int):Option (Int×CS):=
 if x.op=1 then some (x.v.k,c)else
 if x.op=3 then some (3,c)else
 if x.op=2 then some ((mj c i x.name).1.kind,(mj c i x.name).2)else
 if x.op=4 then(match ks with
  |[]=>none
  |k::_=>some (bif aO x.name [33]then 2 else 1,cn c i (aB k (bif aO x.name [33]then 2 else 1))))else
 if x.op=5 then(match ks with
  |k::k'::_=>some ((En x.name k k').1,cn c i (En x.name k k').2)
  |_=>none)else
 some ((fY x.name ks).1,Ae c i (fY x.name ks).2)
theorem Gl {n:Nat}(c c':CS)(i k:Int)(x:No)(ks:List Int)(h:EF c i x ks=some (k,c'))(hl:ks.length<1000):evFn lay0.tab (n+1004) 182 [.box 0 0,.p (.int .i64 i),.p x.e,.p (.slice 1 (ks.map iE))] c.k.hp=some (.p (.int .i64 k),c'.k.hp):=by
 apply Gz (n+1003) c.k i x.r (ks.map iE);unfold EF at h;unfold oJ;have hop:x.r.Op=x.op:=rfl;have hnm:x.r.Name=x.name:=rfl;simp only[aV,dt,hop,hnm];by_cases h1:x.op=1
 ·rw[if_pos h1]at h ⊢
  simp only[lα,lε]at h;obtain⟨rfl,rfl⟩:=h;rfl
 rw[if_neg h1]at h ⊢
 by_cases h3:x.op=3
 ·rw[if_pos h3]at h ⊢
  simp only[lα,lε]at h;obtain⟨rfl,rfl⟩:=h;rfl
 rw[if_neg h3]at h ⊢
 by_cases h2:x.op=2
 ·rw[if_pos h2]at h ⊢
  simp only[lα,lε]at h;obtain⟨rfl,rfl⟩:=h;have u:=Qq (n:=n+1001) c i x.name;simp only[aa u,ba,dVr,oU];rfl
 rw[if_neg h2]at h ⊢
 by_cases h4:x.op=4
 ·rw[if_pos h4]at h ⊢
  cases ks with
  |nil=>cases h
  |cons k0 r=>
   simp only[lα,lε]at h;obtain⟨rfl,rfl⟩:=h;have at0:bw ((k0::r).map iE) 0=some (iE k0):=rfl;have w:=fun b=>nE (n:=n+1001) c i b
   simp only[at0,be,dI,aa (w true),aa (w false),bt,aA,oU,aV];cases aO x.name [33]
   ·simp only[aS,cond_false];by_cases hk:k0=1
    ·rw[if_pos hk,mδ hk]
    ·rw[if_neg hk,lω hk]
   ·simp only[aP,cond_true];by_cases hk:k0=2
    ·rw[if_pos hk,mδ hk]
    ·rw[if_neg hk,lω hk]
 rw[if_neg h4]at h ⊢
 by_cases h5:x.op=5
 ·rw[if_pos h5]at h ⊢
  match ks,h with
  |k0::k1::r,h=>
   simp only[lα,lε]at h;obtain⟨rfl,rfl⟩:=h;have at0:bw ((k0::k1::r).map iE) 0=some (iE k0):=rfl;have at1:bw ((k0::k1::r).map iE) 1=some (iE k1):=rfl;have b:=UO (n:=n+1000) c i x.name k0 k1;simp only[at0,at1,be,dI,aa b,ba,bz,oU]
 rw[if_neg h5]at h ⊢
 simp only[lα,lε]at h;obtain⟨rfl,rfl⟩:=h;have a:=Xl (n:=n) c i x.name ks hl;simp only[aa a,ba,bz,oU]
end
end Go.Ab
end
section
namespace Go.Ab
open Go
set_option maxRecDepth 100000
noncomputable section
def yA (c:CS)(i:Int)(x:No)(ks:List Int):Option CS:=
 if x.op=8 then(match ks with
  |[]=>none
  |k::_=>xV c i x k)else
 if x.op=9 then(match ks with
  |[]=>none
  |k::_=>some (cn (mj c i x.name).2 i (decide ((mj c i x.name).1.kind=k))))else
 if x.op=11∨x.op=12 then(match ks with
  |[]=>none
  |k::_=>some (cn c i (decide (k=2))))else
 if x.op=13 then(match ks with
  |[]=>some (cn c i (false==!decide (c.re=0)))
  |k::_=>some (cn (cn c i (true==!decide (c.re=0))) i (decide (k=c.re))))else
 if x.op=15 then some (cn c i (decide (ks=[3,1])))else
 if x.op=16 then some (cn c i (decide (ks=[3,1,1])))else
 if x.op=17 then(match ks with
  |[]=>none
  |k::_=>some (cn c i (decide (k=3))))else some c
theorem aeA (c:CS)(i:Int)(b:Bool):(cn c i b).re=c.re:=by
 unfold cn iO;split<;>(try rfl);split<;>rfl
theorem IP {n:Nat}(c c':CS)(i:Int)(x:No)(ks:List Int)(h:yA c i x ks=some c')(hl:ks.length<1000):evFn lay0.tab (n+1004) 183 [.box 0 0,.p (.int .i64 i),.p x.e,.p (.slice 1 (ks.map iE))] c.k.hp=some (.tup [],c'.k.hp):=by
 apply JA (n+1003) c.k i x.r (ks.map iE);unfold yA at h;unfold qf;have hop:x.r.Op=x.op:=rfl;have hnm:x.r.Name=x.name:=rfl;have w:=fun(c:CS) b=>nE (n:=n+1001) c i b
 have at0:∀k r,bw ((k::r:List Int).map iE) 0=some (iE k):=fun k r=>rfl
 have hre:c.k.re=c.re:=rfl;simp only[aV,dt,hop,hnm];by_cases h8:x.op=8
 ·rw[if_pos h8]at h ⊢
  cases ks with
  |nil=>cases h
  |cons k r=>
   have e:=afj (n:=n+1000) c c' i x k h;simp only[No.e]at e;simp only[at0,be,dI,aa e,bt,aA,oU]
 rw[if_neg h8]at h ⊢
 by_cases h9:x.op=9
 ·rw[if_pos h9]at h ⊢
  cases ks with
  |nil=>cases h
  |cons k r=>
   simp only[lα]at h;subst h;have u:=Qq (n:=n+1001) c i x.name;simp only[at0,be,dI,aa u,ba,dVr,oU,aa (w _ _),bt,aA,Vr.r];rfl
 rw[if_neg h9]at h ⊢
 have t48:∀ys:List Int,evFn lay0.tab (n+1003) 48 [.p (.slice 1 (ks.map iE)),.p (.slice 1 (ys.map iE))] []=some (.p (.bool (decide (ks=ys))),[]):=fun ys=>Di (n:=n+1) ks ys hl
 have t2:=t48 [3,1];have t3:=t48 [3,1,1];simp only[List.map_cons,List.map_nil,iE]at t2 t3;by_cases h11:x.op=11
 ·rw[if_pos (.inl h11)]at h;rw[if_pos h11,if_pos h11];cases ks with
  |nil=>cases h
  |cons k r=>
   simp only[lα]at h;subst h;simp only[at0,be,dI,aa (w _ _),bt,aA,oU]
 rw[if_neg h11];by_cases h12:x.op=12
 ·rw[if_pos (.inr h12)]at h;rw[if_pos h12];cases ks with
  |nil=>cases h
  |cons k r=>
   simp only[lα]at h;subst h;simp only[at0,be,dI,aa (w _ _),bt,aA,oU]
 rw[if_neg (by rintro(h|h)<;>contradiction)]at h;rw[if_neg h12];by_cases h13:x.op=13
 ·rw[if_pos h13]at h ⊢
  cases ks with
  |nil=>
   simp only[lα]at h;subst h;have e0:(aU 0 (↑(List.map iE ([]:List Int)).length)==!decide (c.k.re=0))=(false==!decide (c.re=0)):=rfl;simp only[e0,aa (w _ _),bt,aA,oU];rw[if_pos (by simp)];rfl
  |cons k r=>
   simp only[lα]at h;subst h;have e0:aU 0 (↑(List.map iE (k::r)).length)=true:=by rw[iR];simp
   simp only[e0,hre,aa (w _ _),bt,aA,oU];rw[if_neg (by simp;omega)];simp only[at0,be,dI];have e1:(cn c i (true==!decide (c.re=0))).k.re=c.re:=aeA c i _;rw[e1]
 rw[if_neg h13]at h ⊢
 by_cases h15:x.op=15
 ·rw[if_pos h15]at h ⊢
  simp only[lα]at h;subst h;simp only[aa t2,ba,aC,bp,aa (w _ _),bt,aA,oU]
 rw[if_neg h15]at h ⊢
 by_cases h16:x.op=16
 ·rw[if_pos h16]at h ⊢
  simp only[lα]at h;subst h;simp only[aa t3,ba,aC,bp,aa (w _ _),bt,aA,oU]
 rw[if_neg h16]at h ⊢
 by_cases h17:x.op=17
 ·rw[if_pos h17]at h ⊢
  cases ks with
  |nil=>cases h
  |cons k r=>
   simp only[lα]at h;subst h;simp only[at0,be,dI,aa (w _ _),bt,aA,oU]
 rw[if_neg h17]at h ⊢
 simp only[lα]at h;subst h;rfl
def jD:Nat→List No→Int→Bool
 |0,_,_=>false
 |f+1,ns,i=>match eG ns i with
  |none=>false
  |some x=>
   if x.op=13 then true else if x.op=14 then true else
   if x.op=11 then(decide (x.kids.length=3)&&((match x.kids[1]? with|some k=>decide (k<i)&&jD f ns k|none=>false)&&(match x.kids[2]? with|some k=>decide (k<i)&&jD f ns k|none=>false)))else
   if x.op=18 then(match x.kids.getLast? with|some k=>decide (k<i)&&jD f ns k|none=>false)else false
theorem fZ {α:Type}{l:List α}{i:Int}(h:i<0∨(l.length:Int)≤i):eG l i=none:=by
 unfold eG;by_cases h0:0≤i
 ·rw[if_pos h0,lζ (by omega)]
 ·rw[if_neg h0]
theorem Nr {α:Type}{l:List α}{i:Int}{x:α}(h:eG l i=some x):∃j:Nat,∃hj:j<l.length,i=(j:Int)∧l[j]=x:=by
 unfold eG at h;by_cases h0:0≤i
 ·rw[if_pos h0]at h;have hj:i.toNat<l.length:=by
   rcases lπ i.toNat l.length with h1|h1
   ·exact h1
   ·rw[lζ h1]at h;cases h
  rw[lγ hj]at h;exact⟨i.toNat,hj,by omega,by simpa using h⟩
 ·rw[if_neg h0]at h;cases h
theorem HX {f:Nat}{ns:List No}{i:Int}(h:eG ns i=none):jD f ns i=false:=by
 cases f with
 |zero=>rfl
 |succ f=>simp only[jD,h]
theorem XD {n:Nat}{f:Nat}{ns:List No}(he:∀k:Int,k<f→evFn lay0.tab n 229 [.p (.slice 8 (ns.map No.e)),.p (.int .i64 k)] []=some (.p (.bool (jD f ns k)),[]))(x:No)(j:Int)(i:Int){k:Int}(hk:eG x.kids j=some k)(hi:i≤f):evFn lay0.tab (n+1) 267 [.p (.int .i64 j),.box 0 0,.box 1 0,.box 2 0] [x.r.b,.box [.p (.int .i64 i)],.box [.p (.slice 8 (ns.map No.e))]]=some (.p (.bool (decide (k<i)&&jD f ns k)),[x.r.b,.box [.p (.int .i64 i)],.box [.p (.slice 8 (ns.map No.e))]]):=by
 apply X4 n x.r j i (ns.map No.e);unfold DH;have hk':bw x.r.Kids j=some (iE k):=by
  show bw (x.kids.map iE) j=_;rw[aE,hk];rfl
 simp only[hk',be,dI,iR,dt];by_cases hlt:k<i
 ·rw[if_pos hlt,mδ hlt];simp only[aa (he k (by omega)),ba,aC,aA,Bool.true_and];cases jD f ns k<;>rfl
 ·rw[if_neg hlt,lω hlt];rfl
theorem adT (l:List Int){a:Int}{r:List Int}(h:l=a::r):eG l (((l.length:Int)) - 1)=l.getLast?∧aj .i64 ((l.length:Int) - 1)=(l.length:Int) - 1∨1000000≤l.length:=by
 by_cases hb:1000000≤l.length
 ·exact .inr hb
 ·left;have hl:0<l.length:=by rw[h];simp
  refine⟨?_,jT (by omega) (by omega)⟩;have:((l.length:Int) - 1)=((l.length - 1:Nat):Int):=by omega
  rw[this,eg,List.getLast?_eq_getElem?]
theorem I0:∀(f:Nat) (n:Nat) (ns:List No) (i:Int),i<f→(∀x∈ns,x.kids.length<1000)→evFn lay0.tab (n+2*f+1) 229 [.p (.slice 8 (ns.map No.e)),.p (.int .i64 i)] []=some (.p (.bool (jD f ns i)),[])
 |0,n,ns,i,hi,hb=>by
  apply JM _ (ns.map No.e) i;unfold wC;rw[cT (by omega:i<0)];rfl
 |f+1,n,ns,i,hi,hb=>by
  have he:=fun k hk=>I0 f n ns k hk hb
  have key:=fun x j k hk=>XD he x j i (k:=k) hk (by omega)
  rw[show n+2*(f+1)+1=n+2*f+1+1+1 by omega];apply JM _ (ns.map No.e) i;unfold wC;cases ha:eG ns i with
  |none=>
   rw[HX ha,iR,dt,bJ,dt];by_cases h0:i<0
   ·rw[if_pos h0]
   ·rw[if_neg h0];by_cases h1:(((ns.map No.e).length:Int))≤i
    ·rw[if_pos h1]
    ·exfalso;rw[lβ]at h1;have hj:i.toNat<ns.length:=by omega
     have:i=(i.toNat:Int):=by omega
     rw[this,aG hj]at ha;cases ha
  |some x=>
   obtain⟨j,hj,rfl,hx⟩:=Nr ha;rw[Bq (by omega),aS,bJ,lβ,lω (by omega),aS,aE,ha];have hxb:x.kids.length<1000:=hb x (hx▸lι hj);simp only[Option.map_some,be,sI,jD,ha,aV,dt];have hop:x.r.Op=x.op:=rfl;simp only[hop];by_cases h13:x.op=13
   ·rw[if_pos h13,if_pos h13]
   rw[if_neg h13,if_neg h13];by_cases h14:x.op=14
   ·rw[if_pos h14,if_pos h14]
   rw[if_neg h14,if_neg h14];by_cases h11:x.op=11
   ·rw[if_pos h11,if_pos h11];have hlk:(x.r.Kids.length:Int)=(x.kids.length:Int):=by
     show((x.kids.map iE).length:Int)=_;rw[lβ]
    rw[hlk];by_cases h3:x.kids.length=3
    ·rw[if_pos (by omega),mδ h3,Bool.true_and];have e1:x.kids[1]?=some x.kids[1]:=lγ (by omega);have e2:x.kids[2]?=some x.kids[2]:=lγ (by omega);have k1:=key x 1 x.kids[1] (aG (j:=1) (by omega));have k2:=key x 2 x.kids[2] (aG (j:=2) (by omega));simp only[aa k1,aa k2,ba,aC,bp,e1,e2];cases(decide (x.kids[1]<(j:Int))&&jD f ns x.kids[1])<;>cases(decide (x.kids[2]<(j:Int))&&jD f ns x.kids[2])<;>rfl
    ·rw[if_neg (by omega),lω h3,Bool.false_and]
   rw[if_neg h11,if_neg h11];by_cases h18:x.op=18
   ·rw[if_pos h18,if_pos h18];have hlk:(x.r.Kids.length:Int)=(x.kids.length:Int):=by
     show((x.kids.map iE).length:Int)=_;rw[lβ]
    rw[hlk];cases hk:x.kids with
    |nil=>rw[Bq (by simp)];rfl
    |cons a r=>
     rw[←hk];rcases adT x.kids hk with⟨l1,l2⟩|l3
     ·rw[cT (by rw[hk];simp),aP,l2];cases hg:x.kids.getLast? with
      |none=>rw[hk]at hg;simp at hg
      |some k=>
       have k1:=key x ((x.kids.length:Int) - 1) k (by rw[l1,hg]);simp only[aa k1,ba,aC,bp];cases(decide (k<(j:Int))&&jD f ns k)<;>rfl
     ·omega
   rw[if_neg h18,if_neg h18]
end
end Go.Ab
end
section
namespace Go.Ab
open Go
set_option maxRecDepth 100000
noncomputable section
def jE (ns:List No)(i:Int):Bool:=jD 1000 ns i
def hH (v:CS→Int→Option (Int×CS)):CS→List Int→Option (List Int×CS)
 |c,[]=>some ([],c)
 |c,k::r=>match v c k with
  |none=>none
  |some (x,c1)=>match hH v c1 r with
   |none=>none
   |some (xs,c2)=>some (x::xs,c2)
def sD (v:CS→Int→Bool→Option (Int×CS)):CS→List Int→Bool→Option CS
 |c,[],_=>some c
 |c,k::r,d=>match v c k d with
  |none=>none
  |some (_,c1)=>sD v c1 r (d||jE c1.ns k)
def opT (c:CS)(i:Int)(x:No)(ks:List Int):Option (Int×CS):=
 if x.op=7 then Rq c i x ks else if x.op≤6 then EF c i x ks else match yA c i x ks with
  |some c=>some (0,c)
  |none=>none
def iS (c:CS)(i:Int)(x:No)(k:Int):CS:=if x.op≤7 then {c with ki:=td c.ki i k}else c
def qK (v:CS→Int→Bool→Option (Int×CS))(c:CS)(i:Int)(x:No):Option CS:=match sD v c x.kids false with
 |none=>none
 |some c1=>some (if i=(c1.ns.length:Int) - 1 then cn {c1 with sc:=c.sc} i (decide (c1.re=0)||jE c1.ns i)else {c1 with sc:=c.sc})
def kg:Nat→CS→Int→Bool→Option (Int×CS)
 |0,_,_,_=>none
 |f+1,c,i,d=>match eG c.ns i with
  |none=>none
  |some x=>
   if x.op=18 then(match qK (kg f) c i x with
    |none=>none
    |some c1=>some (0,c1))
   else match hH (fun c k=>kg f c k false) c x.kids with
    |none=>none
    |some (ks,c1)=>if c1.er=0 then(match opT c1 i x ks with
     |none=>none
     |some (k,c2)=>some (k,iS (cn c2 i (!d)) i x k))else some (0,c1)
structure fj (c c':CS):Prop where
 pr:c'.pr=c.pr
 ns:c'.ns=c.ns
 re:c'.re=c.re
 fs:c'.fs=c.fs
theorem fj.refl (c:CS):fj c c:=⟨rfl,rfl,rfl,rfl⟩
theorem fj.trans {a b c:CS}(h:fj a b)(k:fj b c):fj a c:=⟨k.pr.trans h.pr,k.ns.trans h.ns,k.re.trans h.re,k.fs.trans h.fs⟩
theorem mt (c:CS)(i e:Int):fj c (iO c i e):=by unfold iO;split<;>exact⟨rfl,rfl,rfl,rfl⟩
theorem gq (c:CS)(i:Int)(b:Bool):fj c (cn c i b):=by
 unfold cn;split
 ·exact fj.refl c
 ·exact mt _ _ _
theorem Gf (c:CS)(i:Int)(s:List Nat):fj c (mj c i s).2:=by
 unfold mj;split
 ·exact⟨rfl,rfl,rfl,rfl⟩
 ·exact mt _ _ _
theorem z6 {c c':CS}{s:List Nat}{k:Int}(h:m5 c s k=some c'):fj c c':=by
 unfold m5 at h;split at h
 ·simp only[lα]at h;subst h;exact⟨rfl,rfl,rfl,rfl⟩
 ·cases h
theorem WH (c:CS)(i:Int)(x:No):fj c (qR c i x):=by
 unfold qR;split
 ·exact mt _ _ _
 split
 ·exact mt _ _ _
 ·exact fj.refl _
theorem aaA {c c':CS}{i k:Int}{x:No}(h:xV c i x k=some c'):fj c c':=by
 unfold xV at h;split at h
 ·rename_i c3 h3;simp only[lα]at h;subst h;exact(WH _ _ _).trans ((gq _ _ _).trans ((z6 h3).trans (Gf _ _ _)))
 ·cases h
theorem Z5 (c:CS)(i e:Int):fj c (Ae c i e):=by
 unfold Ae;split
 ·exact fj.refl c
 ·exact mt _ _ _
theorem aeg {c c':CS}{i k:Int}{x:No}{ks:List Int}(h:opT c i x ks=some (k,c')):fj c c':=by
 unfold opT at h;split at h
 ·unfold Rq at h;split at h
  ·simp only[lα,lε]at h;rw[←h.2];exact mt _ _ _
  ·split at h
   ·cases h
   ·simp only[lα,lε]at h;rw[←h.2];exact gq _ _ _
 ·split at h
  ·unfold EF at h;repeat' split at h
   all_goals first
    |(cases h;done)
    |(
      simp only[lα,lε]at h;rw[←h.2];first|exact fj.refl _|exact Gf _ _ _|exact gq _ _ _|exact Z5 _ _ _)
  ·split at h
   ·rename_i c1 hs;simp only[lα,lε]at h;rw[←h.2];unfold yA at hs;repeat' split at hs
    all_goals first
     |(cases hs;done)
     |exact aaA hs
     |(
       simp only[lα]at hs;rw[←hs];first|exact fj.refl _|exact gq _ _ _|exact(Gf _ _ _).trans (gq _ _ _)|exact(gq _ _ _).trans (gq _ _ _))
   ·cases h
theorem Ik (c:CS)(i:Int)(x:No)(k:Int):fj c (iS c i x k):=by unfold iS;split<;>exact⟨rfl,rfl,rfl,rfl⟩
theorem Ao {v:CS→Int→Option (Int×CS)}(hv:∀c k r,v c k=some r→fj c r.2):∀(l:List Int) (c:CS) {r:List Int×CS},hH v c l=some r→fj c r.2
 |[],c,r,h=>by simp only[hH,lα]at h;rw[←h];exact fj.refl _
 |k::l,c,r,h=>by
  simp only[hH]at h;split at h
  ·cases h
  ·rename_i x c1 h1;split at h
   ·cases h
   ·rename_i xs c2 h2;simp only[lα]at h;rw[←h];have a:=hv _ _ _ h1;have b:=Ao hv l c1 h2;exact a.trans b
theorem Ep {v:CS→Int→Bool→Option (Int×CS)}(hv:∀c k d r,v c k d=some r→fj c r.2):∀(l:List Int) (c:CS) (d:Bool) {r:CS},sD v c l d=some r→fj c r
 |[],c,d,r,h=>by simp only[sD,lα]at h;rw[←h];exact fj.refl _
 |k::l,c,d,r,h=>by
  simp only[sD]at h;split at h
  ·cases h
  ·rename_i x c1 h1;exact(hv _ _ _ _ h1).trans (Ep hv l c1 _ h)
theorem Ro {v:CS→Int→Bool→Option (Int×CS)}(hv:∀c k d r,v c k d=some r→fj c r.2){c:CS}{i:Int}{x:No}{r:CS}(h:qK v c i x=some r):fj c r:=by
 unfold qK at h;split at h
 ·cases h
 ·rename_i c1 h1;simp only[lα]at h;have h2:=Ep hv _ _ _ h1;have h3:fj c {c1 with sc:=c.sc}:=⟨h2.pr,h2.ns,h2.re,h2.fs⟩;rw[←h];split
  ·exact h3.trans (gq _ _ _)
  ·exact h3
theorem nu:∀(f:Nat) (c:CS) (i:Int) (d:Bool) (r:Int×CS),kg f c i d=some r→fj c r.2
 |0,c,i,d,r,h=>by simp only[kg]at h;cases h
 |f+1,c,i,d,r,h=>by
  simp only[kg]at h;split at h
  ·cases h
  ·split at h
   ·split at h
    ·cases h
    ·rename_i c1 h1;simp only[lα]at h;rw[←h];exact Ro (nu f) h1
   ·split at h
    ·cases h
    ·rename_i ks c1 h1;have s1:=Ao (fun c k r=>nu f c k false r) _ _ h1;split at h
     ·split at h
      ·cases h
      ·rename_i k c2 h2;simp only[lα]at h;rw[←h];exact s1.trans ((aeg h2).trans ((gq _ _ _).trans (Ik _ _ _ _)))
     ·simp only[lα]at h;rw[←h];exact s1
structure Sz (c:CS):Prop where
 pr:c.pr.length<1000
 me:∀a∈c.pr,a.methods.length<1000
 ns:c.ns.length<1000
 ks:∀x∈c.ns,x.kids.length<1000
theorem Sz.of {c c':CS}(h:Sz c)(s:fj c c'):Sz c':=⟨s.pr▸h.pr,s.pr▸h.me,s.ns▸h.ns,s.ns▸h.ks⟩
def S7 (v:CS→Int→Bool→Option (Int×CS))(m:Nat):Prop:=∀(c:CS) (i:Int) (d:Bool) (k:Int) (c':CS),v c i d=some (k,c')→Sz c→evFn lay0.tab m 128 [.box 0 0,.p (.int .i64 i),.p (.bool d)] c.k.hp=some (.p (.int .i64 k),c'.k.hp)
theorem H8 {v:CS→Int→Bool→Option (Int×CS)}{m:Nat}(hs:∀c k d r,v c k d=some r→fj c r.2)(hv:S7 v m)(k0:Int×Bool×Nat×LD×Int×Int×Bool×eC×aF×LD→R)(i:Int)(d:Bool)(l:List Int)(x:aF)(hl:l.length<1000):∀(e q j:Nat) (c:CS) (acc ks:List Int) (c':CS),j+e=l.length→e<q→acc.length=j→hH (fun c k=>v c k false) c (l.drop j)=some (ks,c')→Sz c→
  L_cvisit_1 (bv lay0.tab m) m k0 q (i,d,acc.length,l.map iE,(l.length:Int),(j:Int),c.k,x,acc.map iE)=k0 (i,d,(acc++ks).length,l.map iE,(l.length:Int),(l.length:Int),false,c'.k,x,(acc++ks).map iE)
 |0,q+1,j,c,acc,ks,c',h,_,ha,hk,hz=>by
  obtain rfl:j=l.length:=by omega
  rw[List.drop_length]at hk;simp only[hH,lα,lε]at hk;obtain⟨rfl,rfl⟩:=hk;rw[A3];simp only[mL,bY,aS,mε]
 |e+1,q+1,j,c,acc,ks,c',h,hq,ha,hk,hz=>by
  have hj:j<l.length:=by omega
  rw[lμ hj]at hk;simp only[hH]at hk;split at hk
  ·cases hk
  ·rename_i y c1 h1;split at hk
   ·cases hk
   ·rename_i ys c2 h2;simp only[lα,lε]at hk;obtain⟨rfl,rfl⟩:=hk;rw[A3];have hc:=hv _ _ _ _ _ h1 hz;have hlen:Nat.beq acc.length (acc.map iE).length=true:=by simp
    have hbig:dM ((acc.map iE).length+[Da.int .i64 y].length) 8=true:=CI (by simp;omega) (by decide);simp only[mL,cT (show((j:Int)<(l.length:Int)) by omega),aP,aE,aH,aG hj,be,dI,wS (show j<cb by unfold cb;omega),aa hc,ba,bz,oU,hlen,hbig];have e1:acc.map iE++[Da.int .i64 y]=(acc++[y]).map iE:=by simp[iE]
    rw[e1,lβ];have:=H8 hs hv k0 i d l x hl e q (j+1) c1 (acc++[y]) ys c2 (by omega) (by omega) (by simp;omega) h2 (hz.of (hs _ _ _ _ h1));rw[this];simp only[mμ,List.cons_append,List.nil_append]
theorem Nw {v:CS→Int→Bool→Option (Int×CS)}{m:Nat}(hs:∀c k d r,v c k d=some r→fj c r.2)(hv:S7 v m)(hm:2001≤m)(i:Int)(l:List Int)(sk sv:LD)(hl:l.length<1000):∀(e q j:Nat) (c:CS) (d:Bool) (c':CS),j+e=l.length→e<q→sD v c (l.drop j) d=some c'→Sz c→
  ∃d',∀k0:jX→R,mG (bv lay0.tab m) m k0 q (i,d,l.map iE,(l.length:Int),(j:Int),c.k,sk,sv)=k0 (i,d',l.map iE,(l.length:Int),(l.length:Int),c'.k,sk,sv)
 |0,q+1,j,c,d,c',h,_,hk,hz=>by
  obtain rfl:j=l.length:=by omega
  rw[List.drop_length]at hk;simp only[sD,lα]at hk;subst hk;refine⟨d,fun k0=>?_⟩
  rw[A2];simp only[mK,bY,aS]
 |e+1,q+1,j,c,d,c',h,hq,hk,hz=>by
  have hj:j<l.length:=by omega
  rw[lμ hj]at hk;simp only[sD]at hk;split at hk
  ·cases hk
  ·rename_i y c1 h1;have hc:=hv _ _ _ _ _ h1 hz;have hz1:Sz c1:=hz.of (hs _ _ _ _ h1);obtain⟨d',ih⟩:=Nw hs hv hm i l sk sv hl e q (j+1) c1 _ c' (by omega) (by omega) hk hz1;refine⟨d',fun k0=>?_⟩
   rw[←ih k0,A2];have hen:evFn lay0.tab m 229 [.p (.slice 8 c1.k.ns),.p (.int .i64 l[j])] []=some (.p (.bool (jE c1.ns l[j])),[]):=by
    by_cases hlt:l[j]<(1000:Nat)
    ·obtain⟨m',rfl⟩:∃m',m=m'+2*1000+1:=⟨m - 2001,by omega⟩
     exact I0 1000 m' c1.ns l[j] hlt hz1.ks
    ·have hn:eG c1.ns l[j]=none:=fZ (.inr (by have:=hz1.ns;omega));obtain⟨m',rfl⟩:∃m',m=m'+1:=⟨m - 1,by omega⟩
     unfold jE;rw[HX hn];apply JM m' (c1.ns.map No.e) l[j];unfold wC;rw[Bq (by omega),aS,bJ,lβ,mδ (by have:=hz1.ns;omega),aP]
   simp only[mK,cT (show((j:Int)<(l.length:Int)) by omega),aP,aE,aH,aG hj,be,dI,wS (show j<cb by unfold cb;omega)];cases d
   ·simp only[aS,aa hc,ba,bz,oU,aa hen,aC,aA,Bool.false_or];cases jE c1.ns l[j]<;>rfl
   ·simp only[aP,aa hc,ba,bz,oU,Bool.true_or]
theorem Xm {v:CS→Int→Bool→Option (Int×CS)}{m:Nat}(hs:∀c k d r,v c k d=some r→fj c r.2)(hv:S7 v m)(hm:2010≤m)(c c':CS)(i:Int)(x:No)(hl:x.kids.length<1000)(h:qK v c i x=some c')(hz:Sz c)(hi:i<1000):evFn lay0.tab (m+1) 180 [.box 0 0,.p (.int .i64 i),.p x.e] c.k.hp=some (.tup [],c'.k.hp):=by
 apply XJ m c.k i x.r;unfold Dm;unfold qK at h;split at h
 ·cases h
 ·rename_i c1 h1;simp only[lα]at h;obtain⟨m1,rfl⟩:∃m1,m=m1+1:=⟨m - 1,by omega⟩
  have hcl:evFn lay0.tab (m1+1) 228 [.map 0] [.map c.k.sk c.k.sv]=some (.map 1,[.map c.k.sk c.k.sv,.map c.k.sk c.k.sv]):=XR m1 _ _ _ rfl;simp only[aa hcl];have hz1:=hz.of (Ep hs _ _ _ h1);obtain⟨d',hloop⟩:=Nw hs hv (by omega) i x.kids c.k.sk c.k.sv hl x.kids.length (m1+1) 0 c false c1 (by omega) (by omega) (by rw[List.drop_zero];exact h1) hz;have hlk:(List.length x.r.Kids:Int)=x.kids.length:=by show((x.kids.map iE).length:Int)=_;rw[lβ]
  have hgen:∀k0:jX→R,(dMp 1 (.map 1)<|bd [(.map c.k.sk c.k.sv),(.map c.k.sk c.k.sv)] [(.map c.k.sk c.k.sv),(.map c.k.sk c.k.sv)]<|mG (bv lay0.tab (m1+1)) (m1+1) k0 (m1+1) (i,false,x.r.Kids,(x.r.Kids.length:Int),0,c.k,c.k.sk,c.k.sv))=k0 (i,d',x.kids.map iE,(x.kids.length:Int),(x.kids.length:Int),c1.k,c.k.sk,c.k.sv):=fun k0=>by
   rw[bp,hlk];exact hloop k0
  rw[hgen]
  ·show(iL (aB i (aj .i64 (↑(List.length c1.k.ns) - 1)))
    (iL (aB c1.k.re 0)
     (bv lay0.tab (m1+1) 184 [.box 0 0,.p (.int .i64 i),.p (.bool true)] ({c1 with sc:=c.sc}:CS).k.hp fun d o=>aY d fun r=>aq r<|aR o fun u=>some (.tup [],u.hp))
     (bv lay0.tab (m1+1) 229 [.p (.slice 8 c1.k.ns),.p (.int .i64 i)] [] fun d o=>dP d fun x=>az x fun b=>aq o<|iL b
      (bv lay0.tab (m1+1) 184 [.box 0 0,.p (.int .i64 i),.p (.bool true)] ({c1 with sc:=c.sc}:CS).k.hp fun d o=>aY d fun r=>aq r<|aR o fun u=>some (.tup [],u.hp))
      (bv lay0.tab (m1+1) 184 [.box 0 0,.p (.int .i64 i),.p (.bool false)] ({c1 with sc:=c.sc}:CS).k.hp fun d o=>aY d fun r=>aq r<|aR o fun u=>some (.tup [],u.hp))))
    (some (.tup [],({c1 with sc:=c.sc}:CS).k.hp)))=_
   have e2:aj .i64 (↑(List.length c1.k.ns) - 1)=(c1.ns.length:Int) - 1:=by
    have:(List.length c1.k.ns:Int)=c1.ns.length:=by show((c1.ns.map No.e).length:Int)=_;rw[lβ]
    rw[this];have:=hz1.ns;exact jT (by omega) (by omega)
   have e3:c1.k.re=c1.re:=rfl;simp only[e2,e3,aV,dt];subst h;by_cases hr:i=(c1.ns.length:Int) - 1
   ·rw[if_pos hr,if_pos hr];obtain⟨m2,rfl⟩:∃m2,m1=m2+1:=⟨m1 - 1,by omega⟩
    have w:=fun b=>nE (n:=m2) ({c1 with sc:=c.sc}:CS) i b
    simp only[aa (w true),aa (w false),bt,aA,oU];have hen:evFn lay0.tab (m2+1+1) 229 [.p (.slice 8 c1.k.ns),.p (.int .i64 i)] []=some (.p (.bool (jE c1.ns i)),[]):=by
     obtain⟨m',hm'⟩:∃m',m2+1+1=m'+2*1000+1:=⟨m2+2 - 2001,by omega⟩
     rw[hm'];exact I0 1000 m' c1.ns i (by omega) hz1.ks
    simp only[aa hen,ba,aC,aA];by_cases h0:c1.re=0
    ·rw[if_pos h0,mδ h0];rfl
    ·rw[if_neg h0,lω h0];cases jE c1.ns i<;>rfl
   ·rw[if_neg hr,if_neg hr]
end
end Go.Ab
end
section
namespace Go.Ab
open Go
set_option maxRecDepth 100000
noncomputable section
theorem EX {v:CS→Int→Option (Int×CS)}:∀(l:List Int) (c:CS) {ks:List Int} {c':CS},hH v c l=some (ks,c')→ks.length=l.length
 |[],c,ks,c',h=>by simp only[hH,lα,lε]at h;rw[←h.1]
 |k::l,c,ks,c',h=>by
  simp only[hH]at h;split at h
  ·cases h
  ·split at h
   ·cases h
   ·rename_i xs c2 h2;simp only[lα,lε]at h;rw[←h.1];have:=EX l _ h2;simp[this]
theorem abx {m:Nat}(c:CS)(i k:Int)(d:Bool)(x:No):(bv lay0.tab (m+2) 184 [.box 0 0,.p (.int .i64 i),.p (.bool (!d))] c.k.hp fun d1 o=>aY d1 fun r=>aq r<|aR o fun u=>
  iL (bx x.r.Op 7)
   (cL (bM (TypeDesc.int .i64) (Da.int .i64 i) u.kk 0) fun y=>eZ y
    (some ((.p (.int .i64 k)),({u with kk:=(u.kk++[Da.int .i64 i]),kv:=(u.kv++[Da.int .i64 k])}:eC).hp)) fun n=>
    some ((.p (.int .i64 k)),({u with kv:=(List.set u.kv n (Da.int .i64 k))}:eC).hp))
   (some ((.p (.int .i64 k)),u.hp)))=some (.p (.int .i64 k),(iS (cn c i (!d)) i x k).k.hp):=by
 simp only[aa (nE (n:=m) c i (!d)),bt,aA,oU,bJ,dt];unfold iS;have hop:x.r.Op=x.op:=rfl;rw[hop];by_cases h:x.op≤7
 ·rw[if_pos h,if_pos h];generalize cn c i (!d)=c1;exact upI c1.ki i (fun k=>Da.int .i64 k) k fun a b=>some (.p (.int .i64 k),eC.hp {c1.k with kk:=a,kv:=b})
 ·rw[if_neg h,if_neg h]
theorem SY:∀(f n:Nat),S7 (kg f) (n+3*f+3000)
 |0,n,c,i,d,k,c',h,hz=>by simp only[kg]at h;cases h
 |f+1,n,c,i,d,k,c',h,hz=>by
  rw[show n+3*(f+1)+3000=(n+3*f+3002)+1 by omega];apply XL _ c.k i d;unfold Do;simp only[kg]at h;split at h
  ·cases h
  ·rename_i x hx;obtain⟨j,hj,rfl,hxj⟩:=Nr hx;have hxb:x.kids.length<1000:=hz.ks x (hxj▸lι hj);have hat:bw c.k.ns (j:Int)=some x.e:=by
    show bw (c.ns.map No.e) (j:Int)=_;rw[aE,hx];rfl
   rw[hat];have hop:x.r.Op=x.op:=rfl;simp only[be,sI,hop,aV,dt];split at h
   ·rename_i h18;rw[if_pos h18];split at h
    ·cases h
    ·rename_i c1 h1;simp only[lα,lε]at h;obtain⟨rfl,rfl⟩:=h;have hv:=SY f (n+1);rw[show n+1+3*f+3000=n+3*f+3001 by omega]at hv;have hb:=Xm (nu f) hv (by omega) c c1 (j:Int) x hxb h1 hz (by have:=hz.ns;omega);simp only[No.e]at hb;simp only[aa hb,bt,aA,oU]
   ·rename_i h18;rw[if_neg h18];split at h
    ·cases h
    ·rename_i ks c1 h1;have hv:=SY f (n+2);rw[show n+2+3*f+3000=n+3*f+3002 by omega]at hv;have hl:=fun k0=>H8 (nu f) hv k0 (j:Int) d x.kids x.r hxb x.kids.length (n+3*f+3002) 0 c [] ks c1 (by omega) (by omega) rfl (by rw[List.drop_zero];exact h1) hz
     have hlk:(List.length x.r.Kids:Int)=x.kids.length:=by show((x.kids.map iE).length:Int)=_;rw[lβ]
     simp only[List.length_nil,List.nil_append,List.map_nil,show((0:Nat):Int)=0 from rfl]at hl;rw[hlk];have hl':∀k0,L_cvisit_1 (bv lay0.tab (n+3*f+3002)) (n+3*f+3002) k0 (n+3*f+3002) ((j:Int),d,0,x.r.Kids,(x.kids.length:Int),0,c.k,x.r,[])=_:=hl;rw[hl'];have hkl:ks.length<1000:=by rw[EX _ _ h1];exact hxb
     have hz1:Sz c1:=hz.of (Ao (fun c k r=>nu f c k false r) _ _ h1);have htk:List.take ks.length (List.drop 0 (ks.map iE))=ks.map iE:=by
      rw[List.drop_zero];have:=List.take_length (l:=ks.map iE);rwa [lβ]at this
     have her:c1.k.er=c1.er:=rfl;simp only[htk,hop,her];split at h
     ·rename_i h0;split at h
      ·cases h
      ·rename_i k1 c2 h2;simp only[lα,lε]at h;obtain⟨rfl,rfl⟩:=h;rw[cq,if_pos h0];have tail:=fun k=>abx (m:=n+3*f+3000) c2 (j:Int) k d x
       simp only[hop]at tail;unfold opT at h2;by_cases h7:x.op=7
       ·rw[if_pos h7]at h2 ⊢
        obtain⟨m0,hm0⟩:∃m0,n+3*f+3002=m0+1004:=⟨n+3*f+1998,by omega⟩
        have e:=abD (n:=m0) c1 c2 (j:Int) k1 x ks h2 hkl hz1.pr hz1.me;rw[←hm0]at e;simp only[No.e]at e;rw[aa e];simp only[ba,bz,oU];exact tail k1
       ·rw[if_neg h7]at h2 ⊢
        rw[bJ,dt];by_cases h6:x.op≤6
        ·rw[if_pos h6]at h2 ⊢
         obtain⟨m0,hm0⟩:∃m0,n+3*f+3002=m0+1004:=⟨n+3*f+1998,by omega⟩
         have e:=Gl (n:=m0) c1 c2 (j:Int) k1 x ks h2 hkl;rw[←hm0]at e;simp only[No.e]at e;rw[aa e];simp only[ba,bz,oU];exact tail k1
        ·rw[if_neg h6]at h2 ⊢
         split at h2
         ·rename_i c3 h3;simp only[lα,lε]at h2;obtain⟨rfl,rfl⟩:=h2;obtain⟨m0,hm0⟩:∃m0,n+3*f+3002=m0+1004:=⟨n+3*f+1998,by omega⟩
          have e:=IP (n:=m0) c1 c3 (j:Int) x ks h3 hkl;rw[←hm0]at e;simp only[No.e]at e;rw[aa e];simp only[bt,aA,oU];exact tail 0
         ·cases h2
     ·rename_i h0;simp only[lα,lε]at h;obtain⟨rfl,rfl⟩:=h;rw[cq,if_neg h0]
def ym:CS→List Pa→Option (Option CS)
 |c,[]=>some (some c)
 |c,p::r=>if z7 c p.name=true then some none else match m5 c p.name p.kind with
  |none=>none
  |some c1=>ym c1 r
def CS.init (pr:List Ac)(fs:List (List Nat×Vr))(m:Me):CS:=⟨pr,fs,m.nodes,m.result,-1,0,[],[],[],[],[]⟩
def iw (f:Nat)(pr:List Ac)(fs:List (List Nat×Vr))(m:Me):Option (Option CS):=match ym (CS.init pr fs m) m.params with
 |none=>none
 |some none=>some none
 |some (some c1)=>match kg f c1 ((m.nodes.length:Int) - 1) false with
  |none=>none
  |some (_,c2)=>some (some c2)
def cI (c:CS):Da:= .agg [.slice 2 (c.lo.map Pa.e),.map (c.ki.map fun p=> .int .i64 p.1) (c.ki.map fun p=> .int .i64 p.2),.map (c.va.map fun p=> .int .i64 p.1) (c.va.map fun p=>p.2.e)]
def Wd:Option CS→D
 |none=> .tup [.p (.agg [.slice 2 [],.nilmap,.nilmap]),.p (.int .i64 (-1)),.p (.int .i64 7)]
 |some c=> .tup [.p (cI c),.p (.int .i64 c.nd),.p (.int .i64 c.er)]
theorem yn:∀(l:List Pa) (c:CS) {r:CS},ym c l=some (some r)→fj c r
 |[],c,r,h=>by simp only[ym,lα]at h;rw[←h];exact fj.refl _
 |p::l,c,r,h=>by
  simp only[ym]at h;split at h
  ·cases h
  ·split at h
   ·cases h
   ·rename_i c1 h1;exact(z6 h1).trans (yn l c1 h)
theorem Ps {m:Nat}(k0:ah×eC×cS×bD→R)(k1:LD×LD×LD×Int×Int×ah×eC→R)(ps:List Pa)(mm:ah)(hk0:∀x,k0 x=some (Wd none,[]))(hl:ps.length<1000):∀(e q j:Nat) (c:CS) (o:Option CS),j+e=ps.length→e<q→ym c (ps.drop j)=some o→
  L_check_1 (bv lay0.tab (m+1)) (m+1) k0 k1 q (c.fs.map (fun p=> .str p.1),c.fs.map (fun p=>p.2.e),ps.map Pa.e,(ps.length:Int),(j:Int),mm,c.k)=match o with
   |none=>some (Wd none,[])
   |some c'=>k1 (c.fs.map (fun p=> .str p.1),c.fs.map (fun p=>p.2.e),ps.map Pa.e,(ps.length:Int),(ps.length:Int),mm,c'.k)
 |0,q+1,j,c,o,h,_,hp=>by
  obtain rfl:j=ps.length:=by omega
  rw[List.drop_length]at hp;simp only[ym,lα]at hp;subst hp;rw[D6];simp only[pB,bY,aS]
 |e+1,q+1,j,c,o,h,hq,hp=>by
  have hj:j<ps.length:=by omega
  rw[lμ hj]at hp;simp only[ym]at hp;rw[D6];simp only[pB,cT (show((j:Int)<(ps.length:Int)) by omega),aP,aE,aH,aG hj,be,ZH,wS (show j<cb by unfold cb;omega)];have hn:ps[j].r.Name=ps[j].name:=rfl;have hkd:ps[j].r.Kind=ps[j].kind:=rfl;have hle:∀(E:R) (K:Da→R),(cL (bM TypeDesc.string (Da.str ps[j].name) c.k.lk 0) fun y=>eZ y E fun n=>cL c.k.lv[n]? K)=mO (cY c.le ps[j].name) E fun v=>K (.bool v):=fun E K=>lkS c.le ps[j].name Da.bool E K
  simp only[hn,hkd];rw[hle,lkS];unfold z7 at hp;have step:∀(hd:z7 c ps[j].name=false),(bv lay0.tab (m+1) 127 [.box 0 0,.p (.str ps[j].name),.p (.int .i64 ps[j].kind)] c.k.hp fun d o=>aY d fun r=>aq r<|aR o fun u=>L_check_1 (bv lay0.tab (m+1)) (m+1) k0 k1 q (c.fs.map (fun p=> .str p.1),c.fs.map (fun p=>p.2.e),ps.map Pa.e,(ps.length:Int),((j+1:Nat):Int),mm,u))=match o with
   |none=>some (Wd none,[])
   |some c'=>k1 (c.fs.map (fun p=> .str p.1),c.fs.map (fun p=>p.2.e),ps.map Pa.e,(ps.length:Int),(ps.length:Int),mm,c'.k):=by
   intro hd;unfold z7 at hd;rw[hd]at hp;simp only[Bool.false_eq_true,if_false]at hp;split at hp
   ·cases hp
   ·rename_i c1 h1;have e1:=C9 (n:=m) c c1 ps[j].name ps[j].kind h1;rw[aa e1];simp only[bt,aA,oU];have hfs:c1.fs=c.fs:=(z6 h1).fs;have:=Ps (m:=m) k0 k1 ps mm hk0 hl e q (j+1) c1 o (by omega) (by omega) hp;rw[hfs]at this;exact this
  unfold z7 at step;cases hg:cY c.fs ps[j].name with
  |some v=>
   simp only[hg,if_true,lα]at hp;subst hp;simp only[R6,dVr,hk0]
  |none=>
   simp only[hg]at hp step;simp only[aaL];cases hh:cY c.le ps[j].name with
   |some b=>
    simp only[hh]at hp step;simp only[R6,aC];cases b
    ·rw[aS];exact step rfl
    ·simp only[if_true,lα]at hp;subst hp;rw[aP,hk0]
   |none=>
    simp only[hh]at step;simp only[aaL];exact step trivial
theorem abF {f n:Nat}(pr:List Ac)(fs:List (List Nat×Vr))(m:Me)(o:Option CS)(h:iw f pr fs m=some o)(h1:pr.length<1000)(h2:∀a∈pr,a.methods.length<1000)(h3:m.nodes.length<1000)(h4:∀x∈m.nodes,x.kids.length<1000)(h5:m.params.length<1000):
  evFn lay0.tab (n+3*f+3001) 88 [.p (.agg [.slice 3 (pr.map Ac.e)]),.p (.map (fs.map fun p=> .str p.1) (fs.map fun p=>p.2.e)),.p m.e] []=some (Wd o,[]):=by
 apply abT (n+3*f+3000) (pr.map Ac.e) (fs.map fun p=> .str p.1) (fs.map fun p=>p.2.e) m.r;unfold I6;unfold iw at h;have hz:Sz (CS.init pr fs m):=⟨h1,h2,h3,h4⟩;cases hp:ym (CS.init pr fs m) m.params with
 |none=>rw[hp]at h;cases h
 |some o1=>
  rw[hp]at h;have hl:=fun k0 k1 (hk:∀x,k0 x=some (Wd none,[]))=>Ps (m:=n+3*f+2999) k0 k1 m.params m.r hk h5 m.params.length (n+3*f+3000) 0 (CS.init pr fs m) o1 (by omega) (by omega) (by rw[List.drop_zero];exact hp)
  have hlk:(List.length m.r.Params:Int)=m.params.length:=by show((m.params.map Pa.e).length:Int)=_;rw[lβ]
  rw[hlk];refine Eq.trans (hl _ _ fun x=>rfl) ?_;cases o1 with
  |none=>simp only[lα]at h;rw[←h]
  |some c1=>
   simp only at h;split at h
   ·cases h
   ·rename_i k c2 h2';simp only[lα]at h;rw[←h];have hz1:Sz c1:=hz.of (yn _ _ hp);have e:=SY f n c1 ((m.nodes.length:Int) - 1) false k c2 h2' hz1;have hln:aj .i64 (↑(List.length m.r.Nodes) - 1)=(m.nodes.length:Int) - 1:=by
     have:(List.length m.r.Nodes:Int)=m.nodes.length:=by show((m.nodes.map No.e).length:Int)=_;rw[lβ]
     rw[this];exact jT (by omega) (by omega)
    simp only[hln];rw[aa e];have htk:List.take c2.k.ln (List.drop 0 c2.k.lo)=c2.lo.map Pa.e:=by
     rw[List.drop_zero];show List.take c2.lo.length (c2.lo.map Pa.e)=_;have:=List.take_length (l:=c2.lo.map Pa.e);rwa [lβ]at this
    simp only[ba,bz,oU,htk];rfl
end
end Go.Ab
end
section
namespace Go.Ab
open Go
noncomputable section
mutual
inductive HE (ns:List No):Nat→Nat→Prop
 |mk {lo i:Nat} {x:No}:ns[i]?=some x→Ch ns lo x.kids i→HE ns lo i
inductive Ch (ns:List No):Nat→List Int→Nat→Prop
 |nil {lo:Nat}:Ch ns lo [] lo
 |cons {lo k hi:Nat} {r:List Int}:HE ns lo k→Ch ns (k+1) r hi→Ch ns lo ((k:Int)::r) hi
end
mutual
theorem HE.le {ns:List No}{lo i:Nat}:HE ns lo i→lo≤i
 | .mk _ h=>h.le
theorem Ch.le {ns:List No}{lo hi:Nat}{l:List Int}:Ch ns lo l hi→lo≤hi
 | .nil=>Nat.le_refl _
 | .cons h g=>by have:=h.le;have:=g.le;omega
end
theorem HE.lt {ns:List No}{lo i:Nat}(h:HE ns lo i):i<ns.length:=by
 cases h with
 |mk hx _=>
  rcases lπ i ns.length with h1|h1
  ·exact h1
  ·rw[lζ h1]at hx;cases hx
theorem NG {ns:List No}:∀(a b:List Int) {lo hi:Nat},Ch ns lo (a++b) hi→∃mid,Ch ns lo a mid∧Ch ns mid b hi
 |[],b,lo,hi,h=>⟨lo,.nil,h⟩
 |x::a,b,lo,hi,h=>by
  cases h with
  |cons h1 h2=>
   obtain⟨mid,h3,h4⟩:=NG a b h2;exact⟨mid,.cons h1 h3,h4⟩
theorem Tq {ns:List No}:∀(a b:List Int) {lo mid hi:Nat},Ch ns lo a mid→Ch ns mid b hi→Ch ns lo (a++b) hi
 |[],b,lo,mid,hi,h,g=>by cases h;exact g
 |x::a,b,lo,mid,hi,h,g=>by
  cases h with
  |cons h1 h2=>exact .cons h1 (Tq a b h2 g)
def eJ:List No→Nat→List Int→Bool
 |[],_,roots=>decide (roots.length=1)
 |x::r,i,roots=>if roots.length<x.kids.length then false else if roots.drop (roots.length - x.kids.length)=x.kids then eJ r (i+1) (roots.take (roots.length - x.kids.length)++[(i:Int)])else false
theorem uc {ns:List No}:∀(r:List No) (i:Nat) (roots:List Int),ns.drop i=r→i≤ns.length→Ch ns 0 roots i→eJ r i roots=true→∃k:Nat,HE ns 0 k∧k+1=ns.length
 |[],i,roots,hr,hi,hc,h=>by
  simp only[eJ,lη]at h;have hl:i=ns.length:=by
   have:=congrArg List.length hr;simp at this;omega
  match roots,h,hc with
  |[k],_,hc=>
   cases hc with
   |cons h1 h2=>cases h2;exact⟨_,h1,hl⟩
 |x::r,i,roots,hr,hi,hc,h=>by
  simp only[eJ]at h;split at h
  ·cases h
  ·split at h
   ·rename_i hlen hdrop;have hlt:i<ns.length:=by
     rcases lπ i ns.length with h1|h1
     ·exact h1
     ·rw[qβ h1]at hr;cases hr
    have hx:ns[i]?=some x:=by
     rw[lμ hlt]at hr;rw[lγ hlt];simp only[lν]at hr;rw[hr.1]
    have hr':ns.drop (i+1)=r:=by
     rw[lμ hlt]at hr;simp only[lν]at hr;exact hr.2
    rw[←List.take_append_drop (roots.length - x.kids.length) roots,hdrop]at hc;obtain⟨mid,h1,h2⟩:=NG _ _ hc;exact uc r (i+1) _ hr' hlt (Tq _ _ h1 (.cons (.mk hx h2) .nil)) h
   ·cases h
structure afi (x:No):Prop where
 one:x.op=4∨x.op=7∨x.op=8∨x.op=9∨x.op=11∨x.op=12∨x.op=17→1≤x.kids.length
 two:x.op=5→2≤x.kids.length
theorem t4 (c:CS)(i e:Int):(iO c i e).lo=c.lo:=by unfold iO;split<;>rfl
theorem fb (c:CS)(i:Int)(b:Bool):(cn c i b).lo=c.lo:=by
 unfold cn;split
 ·rfl
 ·exact t4 _ _ _
theorem SX (c:CS)(i:Int)(s:List Nat):(mj c i s).2.lo=c.lo:=by
 unfold mj;split
 ·rfl
 ·exact t4 _ _ _
theorem TX (c:CS)(i:Int)(x:No):(qR c i x).lo=c.lo:=by
 unfold qR;split
 ·exact t4 _ _ _
 split
 ·exact t4 _ _ _
 ·rfl
theorem agF (c:CS)(i e:Int):(Ae c i e).lo=c.lo:=by
 unfold Ae;split
 ·rfl
 ·exact t4 _ _ _
theorem NN (c:CS)(s:List Nat)(k:Int)(h:c.lo.length<1000000):∃c',m5 c s k=some c'∧c'.lo=c.lo++[⟨s,k⟩]:=by
 unfold m5;rw[if_pos h];exact⟨_,rfl,rfl⟩
theorem adZ (c:CS)(i:Int)(x:No)(k:Int)(h:c.lo.length<1000000):∃c',xV c i x k=some c'∧c'.lo.length=c.lo.length+1:=by
 unfold xV;obtain⟨c1,h1,h2⟩:=NN (cn (qR c i x) i (decide (k=x.v.k))) x.name x.v.k (by rw[fb,TX];exact h);rw[h1];exact⟨_,rfl,by rw[SX,h2,fb,TX];simp⟩
theorem ahd (c:CS)(i:Int)(x:No)(ks:List Int)(har:afi x)(hk:ks.length=x.kids.length)(hl:c.lo.length<1000000):∃k c',opT c i x ks=some (k,c')∧c'.lo.length≤c.lo.length+1:=by
 unfold opT;by_cases h7:x.op=7
 ·rw[if_pos h7];unfold Rq;have:=har.one (by omega);cases jR c.pr x.name x.v.s with
  |none=>exact⟨_,_,rfl,by rw[t4];omega⟩
  |some m=>match ks,hk with
   |[],hk=>simp at hk;omega
   |k::r,_=>exact⟨_,_,rfl,by rw[fb];omega⟩
 rw[if_neg h7];by_cases h6:x.op≤6
 ·rw[if_pos h6];unfold EF;by_cases h1:x.op=1
  ·rw[if_pos h1];exact⟨_,_,rfl,by omega⟩
  rw[if_neg h1];by_cases h3:x.op=3
  ·rw[if_pos h3];exact⟨_,_,rfl,by omega⟩
  rw[if_neg h3];by_cases h2:x.op=2
  ·rw[if_pos h2];exact⟨_,_,rfl,by rw[SX];omega⟩
  rw[if_neg h2];by_cases h4:x.op=4
  ·rw[if_pos h4];have:=har.one (by omega);match ks,hk with
   |[],hk=>simp at hk;omega
   |k::r,_=>exact⟨_,_,rfl,by rw[fb];omega⟩
  rw[if_neg h4];by_cases h5:x.op=5
  ·rw[if_pos h5];have:=har.two h5;match ks,hk with
   |[],hk=>simp at hk;omega
   |[k],hk=>simp at hk;omega
   |k::k'::r,_=>exact⟨_,_,rfl,by rw[fb];omega⟩
  rw[if_neg h5];exact⟨_,_,rfl,by rw[agF];omega⟩
 rw[if_neg h6];have key:∃c',yA c i x ks=some c'∧c'.lo.length≤c.lo.length+1:=by
  unfold yA;by_cases h8:x.op=8
  ·rw[if_pos h8];have:=har.one (by omega);match ks,hk with
   |[],hk=>simp at hk;omega
   |k::r,_=>
    obtain⟨c1,h1,h2⟩:=adZ c i x k hl;exact⟨c1,h1,by omega⟩
  rw[if_neg h8];by_cases h9:x.op=9
  ·rw[if_pos h9];have:=har.one (by omega);match ks,hk with
   |[],hk=>simp at hk;omega
   |k::r,_=>exact⟨_,rfl,by rw[fb,SX];omega⟩
  rw[if_neg h9];by_cases h11:x.op=11∨x.op=12
  ·rw[if_pos h11];have:=har.one (by omega);match ks,hk with
   |[],hk=>simp at hk;omega
   |k::r,_=>exact⟨_,rfl,by rw[fb];omega⟩
  rw[if_neg h11];by_cases h13:x.op=13
  ·rw[if_pos h13];match ks with
   |[]=>exact⟨_,rfl,by rw[fb];omega⟩
   |k::r=>exact⟨_,rfl,by rw[fb,fb];omega⟩
  rw[if_neg h13];by_cases h15:x.op=15
  ·rw[if_pos h15];exact⟨_,rfl,by rw[fb];omega⟩
  rw[if_neg h15];by_cases h16:x.op=16
  ·rw[if_pos h16];exact⟨_,rfl,by rw[fb];omega⟩
  rw[if_neg h16];by_cases h17:x.op=17
  ·rw[if_pos h17];have:=har.one (by omega);match ks,hk with
   |[],hk=>simp at hk;omega
   |k::r,_=>exact⟨_,rfl,by rw[fb];omega⟩
  rw[if_neg h17];exact⟨_,rfl,by omega⟩
 obtain⟨c1,h1,h2⟩:=key;rw[h1];exact⟨_,_,rfl,h2⟩
theorem aed (c:CS)(i:Int)(x:No)(k:Int):(iS c i x k).lo=c.lo:=by unfold iS;split<;>rfl
def Xk (ns:List No)(f:Nat):Prop:=∀(lo i:Nat),HE ns lo i→i<f→∀(c:CS) (d:Bool),c.ns=ns→c.lo.length+(i+1 - lo)≤100000→∃k c',kg f c (i:Int) d=some (k,c')∧c'.lo.length≤c.lo.length+(i+1 - lo)
theorem Oj {ns:List No}{f:Nat}(hv:Xk ns f):∀(l:List Int) (lo hi:Nat),Ch ns lo l hi→hi≤f→∀c:CS,c.ns=ns→c.lo.length+(hi - lo)≤100000→∃ks c',hH (fun c k=>kg f c k false) c l=some (ks,c')∧c'.lo.length≤c.lo.length+(hi - lo)
 |[],lo,hi,h,_,c,_,_=>by cases h;exact⟨[],c,rfl,by omega⟩
 |_::l,lo,hi,h,hf,c,hc,hb=>by
  cases h with
  | @cons _ k _ _ h1 h2=>
   have l1:=h1.le;have l2:=h2.le;obtain⟨x,c1,e1,b1⟩:=hv lo k h1 (by omega) c false hc (by omega);have s1:=nu f c k false _ e1;obtain⟨xs,c2,e2,b2⟩:=Oj hv l (k+1) hi h2 hf c1 (s1.ns.trans hc) (by omega);refine⟨x::xs,c2,?_,by omega⟩
   simp only[hH,e1,e2]
theorem Ti {ns:List No}{f:Nat}(hv:Xk ns f):∀(l:List Int) (lo hi:Nat),Ch ns lo l hi→hi≤f→∀(c:CS) (d:Bool),c.ns=ns→c.lo.length+(hi - lo)≤100000→∃c',sD (kg f) c l d=some c'∧c'.lo.length≤c.lo.length+(hi - lo)
 |[],lo,hi,h,_,c,d,_,_=>by cases h;exact⟨c,rfl,by omega⟩
 |_::l,lo,hi,h,hf,c,d,hc,hb=>by
  cases h with
  | @cons _ k _ _ h1 h2=>
   have l1:=h1.le;have l2:=h2.le;obtain⟨x,c1,e1,b1⟩:=hv lo k h1 (by omega) c d hc (by omega);have s1:=nu f c k d _ e1;obtain⟨c2,e2,b2⟩:=Ti hv l (k+1) hi h2 hf c1 (d||jE c1.ns k) (s1.ns.trans hc) (by omega);refine⟨c2,?_,by omega⟩
   simp only[sD,e1];exact e2
theorem C8 {ns:List No}(har:∀x∈ns,afi x):∀f,Xk ns f
 |0,lo,i,hs,hi,c,d,hc,hb=>by omega
 |f+1,lo,i,hs,hi,c,d,hc,hb=>by
  have hlt:=hs.lt;have hle:=hs.le;cases hs with
  | @mk _ _ x hx hch=>
   have hx':eG c.ns (i:Int)=some x:=by rw[hc,eg];exact hx
   have hxm:x∈ns:=mα hx;simp only[kg,hx'];by_cases h18:x.op=18
   ·rw[if_pos h18];obtain⟨c1,e1,b1⟩:=Ti (C8 har f) x.kids lo i hch (by omega) c false hc (by omega);unfold qK;rw[e1];refine⟨0,_,rfl,?_⟩;split
    ·rw[fb];show c1.lo.length≤_;omega
    ·show c1.lo.length≤_;omega
   ·rw[if_neg h18];obtain⟨ks,c1,e1,b1⟩:=Oj (C8 har f) x.kids lo i hch (by omega) c hc (by omega);rw[e1];simp only;split
    ·obtain⟨k,c2,e2,b2⟩:=ahd c1 (i:Int) x ks (har x hxm) (EX _ _ e1) (by omega);rw[e2];refine⟨_,_,rfl,?_⟩;rw[aed,fb];omega
    ·exact⟨_,_,rfl,by omega⟩
structure zc (ns:List No):Prop where
 tree:∃k:Nat,HE ns 0 k∧k+1=ns.length
 ar:∀x∈ns,afi x
 lets:∀x∈ns,x.op=8∨x.op=9→∀k∈x.kids,∀y,eG ns k=some y→y.op≤7
theorem Lx:∀(l:List Pa) (c:CS),c.lo.length+l.length<1000→∃o,ym c l=some o∧∀c',o=some c'→c'.lo.length=c.lo.length+l.length
 |[],c,h=>⟨some c,rfl,fun c' e=>by simp only[lα]at e;subst e;simp⟩
 |p::l,c,h=>by
  simp only[ym];split
  ·exact⟨none,rfl,fun c' e=>by cases e⟩
  ·obtain⟨c1,h1,h2⟩:=NN c p.name p.kind (by omega);rw[h1];have hl:c1.lo.length=c.lo.length+1:=by rw[h2];simp
   simp only[List.length_cons]at h;obtain⟨o,h3,h4⟩:=Lx l c1 (by omega);exact⟨o,h3,fun c' e=>by rw[h4 c' e];simp;omega⟩
theorem Wc (pr:List Ac)(fs:List (List Nat×Vr))(m:Me)(hb:zc m.nodes)(hn:m.nodes.length<1000)(hp:m.params.length<1000):∃o,iw 1000 pr fs m=some o:=by
 unfold iw;obtain⟨o,h1,h2⟩:=Lx m.params (CS.init pr fs m) (by simp[CS.init];exact hp);rw[h1];cases o with
 |none=>exact⟨_,rfl⟩
 |some c1=>
  obtain⟨k,hs,hk⟩:=hb.tree;have hst:=yn _ _ h1;have hl:=h2 c1 rfl;simp[CS.init]at hl;obtain⟨k',c2,e,_⟩:=C8 hb.ar 1000 0 k hs (by omega) c1 false (hst.ns) (by omega);have:((m.nodes.length:Int) - 1)=(k:Int):=by omega
  simp only[this,e];exact⟨_,rfl⟩
end
end Go.Ab
end
section
namespace Go.Ab
open Go
set_option maxRecDepth 100000
noncomputable section
theorem rL (x:No):x.r.Op=x.op:=rfl
theorem Cc (x:No):x.r.Name=x.name:=rfl
theorem Gk (x:No):x.r.Value_Kind=x.v.k:=rfl
theorem K0 (x:No):x.r.Value_N=x.v.n:=rfl
theorem Il (x:No):x.r.Value_S=x.v.s:=rfl
theorem K1 (x:No):x.r.Value_I=x.v.I.map iE:=rfl
theorem K2 (x:No):x.r.Value_L=x.v.L.map .str:=rfl
theorem pR (x:No):x.r.Kids=x.kids.map iE:=rfl
theorem eQ {α:Type}(l:List α)(p:α→Bool):l.all p=(l.findIdx? fun x=>!p x).isNone:=by
 rw[←pI];simp
def ed (o:Int):Bool:=bx 1 o&&bx o 6
def Cz (o:Int):Bool:=bx 8 o&&bx o 17
def zW (o:Int):Bool:=aB o 7
def sW (o:Int):Bool:=ed o||zW o
def Eo (o:Int):Bool:=aB o 18
def cK (ns:List No)(k:Int):Int:=((eG ns k).map fun y=>y.op).getD 0
def ep (x:No)(a b:Int):Bool:=bx a (x.kids.length:Int)&&bx (x.kids.length:Int) b
def dL (ns:List No)(x:No)(j:Nat)(f:Int→Bool):Bool:=(x.kids.drop j).all fun k=>f (cK ns k)
theorem oI {n:Nat}(k:Int):evFn lay0.tab (n+1) 221 [.p (.int .i64 k)] []=some (.p (.bool (ed k)),[]):=by
 apply GE n k;simp only[oN,bE,dW,gu,ed,Bool.and_true]
theorem IY {n:Nat}(k:Int):evFn lay0.tab (n+1) 225 [.p (.int .i64 k)] []=some (.p (.bool (Cz k)),[]):=by
 apply JK n k;simp only[qp,bE,dW,gu,Cz,Bool.and_true]
theorem XA {n:Nat}(k:Int):evFn lay0.tab (n+1) 223 [.p (.int .i64 k)] []=some (.p (.bool (zW k)),[]):=by
 apply X1 n k;simp only[DE,bE,dW,zW]
theorem XB {n:Nat}(k:Int):evFn lay0.tab (n+1) 224 [.p (.int .i64 k)] []=some (.p (.bool (Eo k)),[]):=by
 apply X2 n k;simp only[DF,bE,dW,Eo]
theorem Xz {n:Nat}(k:Int):evFn lay0.tab (n+2) 222 [.p (.int .i64 k)] []=some (.p (.bool (sW k)),[]):=by
 apply X0 (n+1) k;simp only[DD,aa (oI (n:=n) k),ba,aC,aA,bE,dW,V6,Bool.or_false,sW,zW]
theorem Xy {n:Nat}(x:No)(a b:Int):evFn lay0.tab (n+1) 219 [.p (.int .i64 a),.p (.int .i64 b),.box 0 0] [x.r.b]=some (.p (.bool (ep x a b)),[x.r.b]):=by
 apply XZ n x.r a b;simp only[DC,pR,lβ,ep];cases bx a (x.kids.length:Int)<;>cases bx (x.kids.length:Int) b<;>rfl
theorem U6 {n:Nat}(ns:List No)(x:No)(j:Nat)(hj:j≤x.kids.length)(hk:∀k∈x.kids,∃y,eG ns k=some y)(h:x.kids.length<1000):evFn lay0.tab (n+1003) 220 [.p (.int .i64 j),.p (.fn 221 []),.box 0 0,.box 1 0] [x.r.b,.box [.p (.slice 8 (ns.map No.e))]]=some (.p (.bool (dL ns x j ed)),[x.r.b,.box [.p (.slice 8 (ns.map No.e))]]):=by
 apply VK (n+1002) x.r (ns.map No.e) j;unfold zB dL;have hd:List.take ((x.kids.map iE).length - Int.toNat (j:Int)) (List.drop (Int.toNat (j:Int)) (x.kids.map iE))=(x.kids.drop j).map iE:=by
  rw[Int.toNat_natCast,mκ (by simp),List.map_drop]
 simp only[pR,hd,bJ,show(0:Int)≤(j:Int) by omega,show(j:Int)≤((x.kids.map iE).length:Int) by rw[lβ];omega,decide_true,aP];have hkd:∀k∈x.kids.drop j,∃y,eG ns k=some y:=fun k hm=>hk k (mπ hm)
 have hld:(x.kids.drop j).length<1000:=by simp;omega
 generalize x.kids.drop j=ks at hkd hld ⊢
 rw[lβ];refine(aX ks (fun q i=>n0 _ (n+1002) _ _ q (ks.map iE,(ks.length:Int),i,x.r,ns.map No.e)) (fun k=>!ed (cK ns k)) (fun i=>some (.p (.bool false),[x.r.b,.box [.p (.slice 8 (ns.map No.e))]])) (some (.p (.bool true),[x.r.b,.box [.p (.slice 8 (ns.map No.e))]])) (fun q i hi=>?_) (fun q=>?_) (by omega)).trans ?_
 ·rw[wX];obtain⟨y,hy⟩:=hkd ks[i] (lι _);simp only[li,cT (show((i:Int)<(ks.length:Int)) by omega),aP,aE,aH,aG hi,be,dI,hy,sI,rL,wS (show i<cb by unfold cb;omega),aa (oI (n:=n+1001) y.op),ba,aC,aA,bp,cK,Option.map_some,Option.getD_some];cases ed y.op<;>rfl
 ·rw[wX];simp only[li,bY,aS]
 ·rw[eQ];cases ks.findIdx? fun k=>!ed (cK ns k)<;>rfl
theorem U7 {n:Nat}(ns:List No)(x:No)(j:Nat)(hj:j≤x.kids.length)(hk:∀k∈x.kids,∃y,eG ns k=some y)(h:x.kids.length<1000):evFn lay0.tab (n+1003) 220 [.p (.int .i64 j),.p (.fn 225 []),.box 0 0,.box 1 0] [x.r.b,.box [.p (.slice 8 (ns.map No.e))]]=some (.p (.bool (dL ns x j Cz)),[x.r.b,.box [.p (.slice 8 (ns.map No.e))]]):=by
 apply VL (n+1002) x.r (ns.map No.e) j;unfold zC dL;have hd:List.take ((x.kids.map iE).length - Int.toNat (j:Int)) (List.drop (Int.toNat (j:Int)) (x.kids.map iE))=(x.kids.drop j).map iE:=by
  rw[Int.toNat_natCast,mκ (by simp),List.map_drop]
 simp only[pR,hd,bJ,show(0:Int)≤(j:Int) by omega,show(j:Int)≤((x.kids.map iE).length:Int) by rw[lβ];omega,decide_true,aP];have hkd:∀k∈x.kids.drop j,∃y,eG ns k=some y:=fun k hm=>hk k (mπ hm)
 have hld:(x.kids.drop j).length<1000:=by simp;omega
 generalize x.kids.drop j=ks at hkd hld ⊢
 rw[lβ];refine(aX ks (fun q i=>n5 _ (n+1002) _ _ q (ks.map iE,(ks.length:Int),i,x.r,ns.map No.e)) (fun k=>!Cz (cK ns k)) (fun i=>some (.p (.bool false),[x.r.b,.box [.p (.slice 8 (ns.map No.e))]])) (some (.p (.bool true),[x.r.b,.box [.p (.slice 8 (ns.map No.e))]])) (fun q i hi=>?_) (fun q=>?_) (by omega)).trans ?_
 ·rw[wY];obtain⟨y,hy⟩:=hkd ks[i] (lι _);simp only[lj,cT (show((i:Int)<(ks.length:Int)) by omega),aP,aE,aH,aG hi,be,dI,hy,sI,rL,wS (show i<cb by unfold cb;omega),aa (IY (n:=n+1001) y.op),ba,aC,aA,bp,cK,Option.map_some,Option.getD_some];cases Cz y.op<;>rfl
 ·rw[wY];simp only[lj,bY,aS]
 ·rw[eQ];cases ks.findIdx? fun k=>!Cz (cK ns k)<;>rfl
theorem U3 {n:Nat}(ns:List No)(x:No)(j:Nat)(hj:j≤x.kids.length)(hk:∀k∈x.kids,∃y,eG ns k=some y)(h:x.kids.length<1000):evFn lay0.tab (n+1003) 220 [.p (.int .i64 j),.p (.fn 222 []),.box 0 0,.box 1 0] [x.r.b,.box [.p (.slice 8 (ns.map No.e))]]=some (.p (.bool (dL ns x j sW)),[x.r.b,.box [.p (.slice 8 (ns.map No.e))]]):=by
 apply VH (n+1002) x.r (ns.map No.e) j;unfold zw dL;have hd:List.take ((x.kids.map iE).length - Int.toNat (j:Int)) (List.drop (Int.toNat (j:Int)) (x.kids.map iE))=(x.kids.drop j).map iE:=by
  rw[Int.toNat_natCast,mκ (by simp),List.map_drop]
 simp only[pR,hd,bJ,show(0:Int)≤(j:Int) by omega,show(j:Int)≤((x.kids.map iE).length:Int) by rw[lβ];omega,decide_true,aP];have hkd:∀k∈x.kids.drop j,∃y,eG ns k=some y:=fun k hm=>hk k (mπ hm)
 have hld:(x.kids.drop j).length<1000:=by simp;omega
 generalize x.kids.drop j=ks at hkd hld ⊢
 rw[lβ];refine(aX ks (fun q i=>nX _ (n+1002) _ _ q (ks.map iE,(ks.length:Int),i,x.r,ns.map No.e)) (fun k=>!sW (cK ns k)) (fun i=>some (.p (.bool false),[x.r.b,.box [.p (.slice 8 (ns.map No.e))]])) (some (.p (.bool true),[x.r.b,.box [.p (.slice 8 (ns.map No.e))]])) (fun q i hi=>?_) (fun q=>?_) (by omega)).trans ?_
 ·rw[wU];obtain⟨y,hy⟩:=hkd ks[i] (lι _);simp only[lf,cT (show((i:Int)<(ks.length:Int)) by omega),aP,aE,aH,aG hi,be,dI,hy,sI,rL,wS (show i<cb by unfold cb;omega),aa (Xz (n:=n+1000) y.op),ba,aC,aA,bp,cK,Option.map_some,Option.getD_some];cases sW y.op<;>rfl
 ·rw[wU];simp only[lf,bY,aS]
 ·rw[eQ];cases ks.findIdx? fun k=>!sW (cK ns k)<;>rfl
theorem U4 {n:Nat}(ns:List No)(x:No)(j:Nat)(hj:j≤x.kids.length)(hk:∀k∈x.kids,∃y,eG ns k=some y)(h:x.kids.length<1000):evFn lay0.tab (n+1003) 220 [.p (.int .i64 j),.p (.fn 223 []),.box 0 0,.box 1 0] [x.r.b,.box [.p (.slice 8 (ns.map No.e))]]=some (.p (.bool (dL ns x j zW)),[x.r.b,.box [.p (.slice 8 (ns.map No.e))]]):=by
 apply VI (n+1002) x.r (ns.map No.e) j;unfold zx dL;have hd:List.take ((x.kids.map iE).length - Int.toNat (j:Int)) (List.drop (Int.toNat (j:Int)) (x.kids.map iE))=(x.kids.drop j).map iE:=by
  rw[Int.toNat_natCast,mκ (by simp),List.map_drop]
 simp only[pR,hd,bJ,show(0:Int)≤(j:Int) by omega,show(j:Int)≤((x.kids.map iE).length:Int) by rw[lβ];omega,decide_true,aP];have hkd:∀k∈x.kids.drop j,∃y,eG ns k=some y:=fun k hm=>hk k (mπ hm)
 have hld:(x.kids.drop j).length<1000:=by simp;omega
 generalize x.kids.drop j=ks at hkd hld ⊢
 rw[lβ];refine(aX ks (fun q i=>nY _ (n+1002) _ _ q (ks.map iE,(ks.length:Int),i,x.r,ns.map No.e)) (fun k=>!zW (cK ns k)) (fun i=>some (.p (.bool false),[x.r.b,.box [.p (.slice 8 (ns.map No.e))]])) (some (.p (.bool true),[x.r.b,.box [.p (.slice 8 (ns.map No.e))]])) (fun q i hi=>?_) (fun q=>?_) (by omega)).trans ?_
 ·rw[wV];obtain⟨y,hy⟩:=hkd ks[i] (lι _);simp only[lg,cT (show((i:Int)<(ks.length:Int)) by omega),aP,aE,aH,aG hi,be,dI,hy,sI,rL,wS (show i<cb by unfold cb;omega),aa (XA (n:=n+1001) y.op),ba,aC,aA,bp,cK,Option.map_some,Option.getD_some];cases zW y.op<;>rfl
 ·rw[wV];simp only[lg,bY,aS]
 ·rw[eQ];cases ks.findIdx? fun k=>!zW (cK ns k)<;>rfl
theorem U5 {n:Nat}(ns:List No)(x:No)(j:Nat)(hj:j≤x.kids.length)(hk:∀k∈x.kids,∃y,eG ns k=some y)(h:x.kids.length<1000):evFn lay0.tab (n+1003) 220 [.p (.int .i64 j),.p (.fn 224 []),.box 0 0,.box 1 0] [x.r.b,.box [.p (.slice 8 (ns.map No.e))]]=some (.p (.bool (dL ns x j Eo)),[x.r.b,.box [.p (.slice 8 (ns.map No.e))]]):=by
 apply VJ (n+1002) x.r (ns.map No.e) j;unfold zA dL;have hd:List.take ((x.kids.map iE).length - Int.toNat (j:Int)) (List.drop (Int.toNat (j:Int)) (x.kids.map iE))=(x.kids.drop j).map iE:=by
  rw[Int.toNat_natCast,mκ (by simp),List.map_drop]
 simp only[pR,hd,bJ,show(0:Int)≤(j:Int) by omega,show(j:Int)≤((x.kids.map iE).length:Int) by rw[lβ];omega,decide_true,aP];have hkd:∀k∈x.kids.drop j,∃y,eG ns k=some y:=fun k hm=>hk k (mπ hm)
 have hld:(x.kids.drop j).length<1000:=by simp;omega
 generalize x.kids.drop j=ks at hkd hld ⊢
 rw[lβ];refine(aX ks (fun q i=>nZ _ (n+1002) _ _ q (ks.map iE,(ks.length:Int),i,x.r,ns.map No.e)) (fun k=>!Eo (cK ns k)) (fun i=>some (.p (.bool false),[x.r.b,.box [.p (.slice 8 (ns.map No.e))]])) (some (.p (.bool true),[x.r.b,.box [.p (.slice 8 (ns.map No.e))]])) (fun q i hi=>?_) (fun q=>?_) (by omega)).trans ?_
 ·rw[wW];obtain⟨y,hy⟩:=hkd ks[i] (lι _);simp only[lh,cT (show((i:Int)<(ks.length:Int)) by omega),aP,aE,aH,aG hi,be,dI,hy,sI,rL,wS (show i<cb by unfold cb;omega),aa (XB (n:=n+1001) y.op),ba,aC,aA,bp,cK,Option.map_some,Option.getD_some];cases Eo y.op<;>rfl
 ·rw[wW];simp only[lh,bY,aS]
 ·rw[eQ];cases ks.findIdx? fun k=>!Eo (cK ns k)<;>rfl
def Og (ns:List No)(x:No)(m:Int):Bool:=ep x 2 m&&(ed (cK ns (x.kids.headD 0))&&dL ns x 1 Eo)
def cm (ns:List No)(x:No):Bool:=bif aB x.op 1 then ep x 0 0 else bif aB x.op 2 then ep x 0 0 else bif aB x.op 3 then ep x 0 0 else bif aB x.op 14 then ep x 0 0 else bif aB x.op 4 then ep x 1 1&&dL ns x 0 ed else bif aB x.op 17 then ep x 1 1&&dL ns x 0 ed else bif aB x.op 5 then ep x 2 2&&dL ns x 0 ed else bif aB x.op 15 then ep x 2 2&&dL ns x 0 ed else bif aB x.op 16 then ep x 3 3&&dL ns x 0 ed else bif aB x.op 6 then ep x 0 16&&dL ns x 0 ed else bif aB x.op 7 then ep x 1 17&&dL ns x 0 ed else bif aB x.op 8 then ep x 1 1&&dL ns x 0 sW else bif aB x.op 9 then ep x 1 1&&dL ns x 0 sW else bif aB x.op 10 then ep x 1 1&&dL ns x 0 zW else bif aB x.op 11 then(bif aB x.op 12 then Og ns x 2 else Og ns x 3)else bif aB x.op 12 then(bif aB x.op 12 then Og ns x 2 else Og ns x 3)else bif aB x.op 13 then ep x 0 1&&dL ns x 0 ed else bif aB x.op 18 then dL ns x 0 Cz else false
theorem abK {n:Nat}(ns:List No)(x:No)(hk:∀k∈x.kids,∃y,eG ns k=some y)(h:x.kids.length<1000):evFn lay0.tab (n+1004) 177 [.p (.slice 8 (ns.map No.e)),.p x.e] []=some (.p (.bool (cm ns x)),[]):=by
 apply ab4 (n+1003) (ns.map No.e) x.r;have h1:∀(a b:Int) (K:KV),bv lay0.tab (n+1003) 219 [.p (.int .i64 a),.p (.int .i64 b),.box 0 0] [x.r.b] K=K (.p (.bool (ep x a b))) [x.r.b]:=fun a b=>aa (Xy (n:=n+1002) x a b)
 have hE:=aa (U6 (n:=n) ns x 0 (Nat.zero_le _) hk h);have hS:=aa (U7 (n:=n) ns x 0 (Nat.zero_le _) hk h);have hA:=aa (U3 (n:=n) ns x 0 (Nat.zero_le _) hk h);have hB:=aa (U4 (n:=n) ns x 0 (Nat.zero_le _) hk h);simp only[show((0:Nat):Int)=0 from rfl]at hE hS hA hB;have hx:∀(o:Int) (K:KV),bv lay0.tab (n+1003) 221 [.p (.int .i64 o)] [] K=K (.p (.bool (ed o))) []:=fun o=>aa (oI (n:=n+1002) o)
 have hif:∀m,(iL (ep x 2 m) (cL (bw x.r.Kids 0) fun x133=>aQ .i64 x133 fun i134=>cL (bw (ns.map No.e) i134) fun x135=>aI x135 fun u136=>bv lay0.tab (n+1003) 221 [(.p (.int .i64 u136.Op))] [] fun d137 o138=>dP d137 fun x139=>az x139 fun b140=>aq o138<|iL b140 (bv lay0.tab (n+1003) 220 [(.p (.int .i64 1)),(.p (.fn 224 [])),(.box 0 0),(.box 1 0)] [x.r.b,(.box [(.p (.slice 8 (ns.map No.e)))])] fun d141 o142=>dP d141 fun x143=>az x143 fun b144=>bd [x.r.b,(.box [(.p (.slice 8 (ns.map No.e)))])] o142<|iL b144 (some ((.p (.bool true)),[])) (some ((.p (.bool false)),[]))) (some ((.p (.bool false)),[]))) (some ((.p (.bool false)),[])))=some (.p (.bool (Og ns x m)),[]):=by
  intro m;unfold Og;cases hks:x.kids with
  |nil=>
   have:ep x 2 m=false:=by unfold ep;rw[hks];rfl
   rw[this];rfl
  |cons k r=>
   obtain⟨y,hy⟩:=hk k (by rw[hks];exact lυ ..);have hC:=aa (U5 (n:=n) ns x 1 (by rw[hks];simp) hk h);simp only[show((1:Nat):Int)=1 from rfl]at hC;simp only[pR,hks,aE,aH,cO,be,dI,hy,sI,rL,hx,hC,ba,aC,aA,bp,bE,dW,gu,Bool.and_true,List.headD_cons,cK,Option.map_some,Option.getD_some]
 simp only[Jh,rL,h1,ba,aC,bp,hif];simp only[hE,hS,hA,hB,ba,aC,bp,bE,dW,gu,Bool.and_true,cm]
def binO:List (List Nat):=[[124,124],[38,38],[61,61],[33,61],[60],[60,61],[62],[62,61],[43],[45],[42],[47],[37]]
def v0:Va:=⟨0,0,[],[],[]⟩
def gX (x:No)(b:Bool):Bool:=bif aB x.op 4 then(bif aO x.name [45]then b else bif aO x.name [33]then b else false)else bif aB x.op 5 then(bif binO.any (fun t=>aO x.name t)then b else false)else bif aB x.op 6 then(bif cU x.name then b else bif aO x.name [105,110,116,115]then b else bif aO x.name [115,116,114,105,110,103,115]then b else false)else bif aB x.op 7 then(bif cU x.name then bif cU x.v.s then jS x.v ⟨0,0,x.v.s,[],[]⟩else false else false)else bif aB x.op 8 then(bif cU x.name then bif hO x.v.k then jS x.v ⟨x.v.k,0,[],[],[]⟩else false else false)else bif aO x.name []then b else false
def ZA (x:No):Bool:=bif aO x.name []then(bif Mg x.v then(bif aB x.v.k 1 then bif bx 0 x.v.n then true else bif aB x.v.k 2 then true else aB x.v.k 3 else bif aB x.v.k 2 then true else aB x.v.k 3)else false)else false
def dX (x:No):Bool:=bif aB x.op 1 then ZA x else bif aB x.op 2 then(bif aB x.op 2 then(bif cU x.name then jS x.v v0 else false)else gX x (jS x.v v0))else bif aB x.op 9 then(bif cU x.name then jS x.v v0 else false)else gX x (jS x.v v0)
theorem Mt {n:Nat}(x:No)(hi:x.v.I.length<1000)(hl:x.v.L.length<1000):evFn lay0.tab (n+1006) 178 [.p x.e] []=some (.p (.bool (dX x)),[]):=by
 apply M7 (n+1005) x.r;have h1:=aa (IX (n:=n+1) x.v v0 hi hl);have h2:=aa (IX (n:=n+1) x.v ⟨0,0,x.v.s,[],[]⟩ hi hl);have h3:=aa (IX (n:=n+1) x.v ⟨x.v.k,0,[],[],[]⟩ hi hl);have h4:=aa (mo (n:=n) x.name);have h5:=aa (mo (n:=n) x.v.s);have h6:=aa (Mu (n:=n+3) x.v hl);have h7:=aa (Xv (n:=n+2) binO x.name (by decide));have h8:=aa (tG (n:=n+1004) x.v.k);simp only[Va.c,v0,List.map_nil]at h1 h2 h3 h6;simp only[binO,List.map_cons,List.map_nil]at h7;simp only[rV,rL,Cc,Gk,K0,Il,K1,K2,h1,h2,h3,h4,h5,h6,h7,h8,ba,aC,aA,bE,dX,ZA,gX,v0,binO]
def hK (op:Int)(hs:List Int):List Int→Nat→Int→Int
 |[],_,m=>m
 |k::r,j,m=>hK op hs r (j+1) (bif(aB op 11||aB op 12)&&aB (j:Int) 0 then(bif aU m (aj .i64 (hs.getD k.toNat 0+1))then aj .i64 (hs.getD k.toNat 0+1)else m)else bif aU m (hs.getD k.toNat 0)then hs.getD k.toNat 0 else m)
def Oe (op m:Int):Int:=bif aB op 4 then aj .i64 (m+2)else bif aB op 5||(aB op 6||(aB op 7||(aB op 15||(aB op 16||(aB op 17||aB op 18)))))then aj .i64 (m+1)else m
def hN:List No→Nat→List Int→List Int
 |[],_,hs=>hs
 |x::r,i,hs=>hN r (i+1) (hs.set i (Oe x.op (hK x.op hs x.kids 0 0)))
def xJ (ns:List No):Int:=(hN ns 0 (List.replicate ns.length 0)).getD (ns.length - 1) 0
def eN (b:Nat)(l:List Int):Prop:=∀k∈l,0≤k∧k<(b:Int)
theorem ne (hs:List Int){i:Nat}(h:i<hs.length):(hs.map iE)[i]?=some (iE (hs.getD i 0)):=by
 simp[lγ h,lρ]
theorem agL {m:Nat}(k0:kH→R)(a b:LD)(N:Nat)(i5 i4 i6:Int)(x:No)(hs:List Int)(hN:N=hs.length)(hk:eN N x.kids)(hl:x.kids.length<1000):∀(e q j:Nat) (mx:Int),j+e=x.kids.length→e<q→
  L_sheight_2 (bv lay0.tab m) m k0 q (a,N,i5,mx,b,i4,i6,x.kids.map iE,(x.kids.length:Int),(j:Int),hs.map iE,x.r)=k0 (a,N,i5,hK x.op hs (x.kids.drop j) j mx,b,i4,i6,x.kids.map iE,(x.kids.length:Int),(x.kids.length:Int),hs.map iE,x.r)
 |0,q+1,j,mx,h,_=>by
  obtain rfl:j=x.kids.length:=by omega
  rw[wT];simp only[ld,bY,aS,List.drop_length,hK]
 |e+1,q+1,j,mx,h,hq=>by
  have hj:j<x.kids.length:=by omega
  obtain⟨g1,g2⟩:=hk x.kids[j] (lι _);have g3:x.kids[j].toNat<hs.length:=by omega
  rw[wT,lμ hj];simp only[ld,cT (show((j:Int)<(x.kids.length:Int)) by omega),aP,aE,aH,aG hj,be,dI,bJ,g1,decide_true,cT g2,Nat.zero_add,ne hs g3,rL,wS (show j<cb by unfold cb;omega),hK];cases aB x.op 11<;>cases aB x.op 12<;>cases aB (j:Int) 0<;>exact agL k0 a b N i5 i4 i6 x hs hN hk hl e q (j+1) _ (by omega) (by omega)
theorem ahR {m:Nat}(k0:kG→R)(ns:List No)(hm:1000<m)(hk:∀x∈ns,eN ns.length x.kids)(hkl:∀x∈ns,x.kids.length<1000)(hl:ns.length<1000):∀(e q i:Nat) (hs:List Int),i+e=ns.length→e<q→hs.length=ns.length→
  L_sheight_1 (bv lay0.tab m) m k0 q (ns.map No.e,ns.length,ns.map No.e,(ns.length:Int),(i:Int),hs.map iE)=k0 (ns.map No.e,ns.length,ns.map No.e,(ns.length:Int),(ns.length:Int),(hN (ns.drop i) i hs).map iE)
 |0,q+1,i,hs,h,_,hhs=>by
  obtain rfl:i=ns.length:=by omega
  rw[wR];simp only[lb,bY,aS,List.drop_length,hN]
 |e+1,q+1,i,hs,h,hq,hhs=>by
  have hi:i<ns.length:=by omega
  have hx:ns[i]∈ns:=lι _;rw[wR,lμ hi];simp only[lb,cT (show((i:Int)<(ns.length:Int)) by omega),aP,aE,aH,aG hi,be,sI,pR,lβ];have g:=agL (m:=m) (fun(l25,n26,i27,i28,l29,i30,i31,l32,i33,i34,l35,u36)=>L_sheight_1 (bv lay0.tab m) m k0 q (l25,n26,l29,i30,aj .i64 (i31+1),List.set l35 (0+Int.toNat i27) (iE (Oe u36.Op i28)))) (ns.map No.e) (ns.map No.e) ns.length i ns.length i ns[i] hs hhs.symm (hk _ hx) (hkl _ hx) ns[i].kids.length m 0 0 (by omega) (by have:=hkl _ hx;omega)
  simp only[show((0:Nat):Int)=0 from rfl,List.drop_zero,rL,Int.toNat_natCast,Nat.zero_add,wS (show i<cb by unfold cb;omega)]at g;refine Eq.trans (Eq.trans ?_ g) ?_
  ·have g2:=fun k0'=>agL (m:=m) k0' (ns.map No.e) (ns.map No.e) ns.length i ns.length i ns[i] hs hhs.symm (hk _ hx) (hkl _ hx) ns[i].kids.length m 0 0 (by omega) (by have:=hkl _ hx;omega)
   simp only[show((0:Nat):Int)=0 from rfl,List.drop_zero]at g2;rw[g2,g2];simp only[rL,bJ,show(0:Int)≤(i:Int) by omega,decide_true,aP,cT (show((i:Int)<(ns.length:Int)) by omega),Nat.zero_add,Int.toNat_natCast,ne hs (show i<hs.length by omega),be,show(cells (iE (hs.getD i 0))).length=1 from rfl,show Nat.beq 1 1=true from rfl,show ∀v,dh (iE (hs.getD i 0)) (cells (Da.int .i64 v))=some (iE v)from fun _=>rfl,wS (show i<cb by unfold cb;omega)];unfold Oe;cases aB ns[i].op 4<;>cases aB ns[i].op 5<;>cases aB ns[i].op 6<;>cases aB ns[i].op 7<;>cases aB ns[i].op 15<;>cases aB ns[i].op 16<;>cases aB ns[i].op 17<;>cases aB ns[i].op 18<;>rfl
  ·simp only[hN];rw[←List.map_set];exact ahR k0 ns hm hk hkl hl e q (i+1) _ (by omega) (by omega) (by simp[hhs])
theorem aaj:∀(l:List No) (i:Nat) (hs:List Int),(hN l i hs).length=hs.length
 |[],_,_=>rfl
 |x::r,i,hs=>by simp only[hN];rw[aaj];simp
theorem U2 {n:Nat}(ns:List No)(h0:0<ns.length)(hk:∀x∈ns,eN ns.length x.kids)(hkl:∀x∈ns,x.kids.length<1000)(hl:ns.length<1000):evFn lay0.tab (n+1002) 179 [.p (.slice 8 (ns.map No.e))] []=some (.p (.int .i64 (xJ ns)),[]):=by
 apply VG (n+1001) (ns.map No.e);unfold zu xJ;have hw:aj .i64 ((ns.length:Int) - 1)=((ns.length - 1:Nat):Int):=by rw[jT (by omega) (by omega)];omega
 have hr:List.replicate ns.length (Da.int .i64 0)=(List.replicate ns.length (0:Int)).map iE:=by simp[iE]
 have g:=fun k0=>ahR (m:=n+1001) k0 ns (by omega) hk hkl hl ns.length (n+1001) 0 (List.replicate ns.length 0) (by omega) (by omega) (by simp)
 simp only[show((0:Nat):Int)=0 from rfl,List.drop_zero]at g;simp only[lβ,Int.toNat_natCast,hr,g,bJ,show(0:Int)≤(ns.length:Int) by omega,Int.le_refl,decide_true,Bool.true_and,show Nat.ble (ns.length*8) 281474976710656=true by rw[Nat.ble_eq];omega,show(ns.length:Int)≤9223372036854775807 by omega,aP,aV,show ¬((ns.length:Int)=0) by omega,decide_false,aS,hw,show(0:Int)≤((ns.length - 1:Nat):Int) by omega,cT (show((ns.length - 1:Nat):Int)<(ns.length:Int) by omega),Nat.zero_add];rw[ne _ (by rw[aaj];simp;omega)];rfl
end
end Go.Ab
end
