import Derived.Test.YtmnmeiibmgcddaaGreatDoorKg1
import Derived.Test.YtmnmeiibmgcddaaGreatDoorOg2
import Derived.Test.YtmnmeiibmgcddaaGreatDoorOg3
set_option linter.all false
namespace Go.Ab
open Go
set_option maxRecDepth 100000
noncomputable section
section
structure Xs where
 c:List Ct
 q:Cm
 (ty me:Int)
 ky:LN
structure Xt where
 pc:Int
 (ls fs st:List Va)
 es:List Ef
 done:Bool
 ok:Int
 ov:Va
 (tT tK mn:LN)
 ar:List Va
 fu:Int
def Xt.x (s:Xs)(X:Xt)(J:LD):Xn:={ct:=s.c.map Ct.e,mn:=s.q.name,mp:=s.q.params.map iE,mr:=s.q.res,ml:=s.q.locals.map iE,mc:=s.q.code.map Cd.e,aT:=s.ty,aM:=s.me,aP:=X.pc,ln:=X.ls.length,ky:=s.ky,fn:=X.fs.length,sn:=X.st.length,en:=X.es.length,dn:=X.done,oK:=X.ok,vK:=X.ov.k,vN:=X.ov.n,vS:=X.ov.s,vI:=X.ov.I.map iE,vL:=X.ov.L.map .str,tT:=X.tT,tK:=X.tK,me:=X.mn,ar:=X.ar.map Va.e,er:=0,oT:=0,oM:=0,oP:=0,ol:=[],of:=[],oe:=[],fu:=X.fu,ls:=X.ls.map Va.e,fs:=X.fs.map Va.e,st:=X.st.map Va.e++J,es:=X.es.map Ef.e}
def fo (X:Xt)(v:Va):Xt:={X with st:=X.st++[v]}
def eF (r:Va×Int)(X:Xt):Xt×Int:=(bif az r.2 0 then fo X r.1 else X,r.2)
def sk (r:Ef×Int)(X:Xt):Xt×Int:=(bif az r.2 0 then {X with es:=X.es++[r.1]}else X,r.2)
section
variable {m:Nat} (s:Xs) (X:Xt) (J:LD)
def Rp (v:Va)(hs:X.st.length<1501)(hm:1<=m):Ω m 56 [.box 0 0,.p v.e] ((X.x s J).hp 0)=some (.tup [],((fo X v).x s []).hp 0):=by
 replace hm:=fuel hm;obtain⟨m,rfl,hm⟩:=hm;apply RO m (X.x s J) v.r;unfold HC;have ht:List.take (X.x s J).sn (X.x s J).st=X.st.map Va.e:=by
  show List.take X.st.length (X.st.map Va.e++J)=_;rw[List.take_append_of_le_length (by rw[lβ];exact Nat.le_refl _),lκ (by rw[lβ];exact Nat.le_refl _)]
 rw[ht,show c8 ((X.st.map Va.e).length+List.length [Da.agg [Da.int .i64 v.r.Kind,Da.int .i64 v.r.N,Da.str v.r.S,Da.slice 1 v.r.I,Da.slice 1 v.r.L]]) 80=true from kX (by rw[lβ];show X.st.length+1<_;omega) (by omega),be]
 have h2:X.st.map Va.e++[Da.agg [Da.int .i64 v.r.Kind,Da.int .i64 v.r.N,Da.str v.r.S,Da.slice 1 v.r.I,Da.slice 1 v.r.L]]=(X.st++[v]).map Va.e:=by rw[List.map_append];rfl
 rw[h2];unfold Xt.x fo;simp only[lβ,mκ]
def AR (v:Va)(hs:X.st.length<1501)(hm:1<=m):Ω m 56 [.box 0 0,.agg [pI v.k,pI v.n,pS v.s,.arr 1 0 v.I.length 1,.arr 2 0 v.L.length 1]] ((X.x s J).bx 3:: .arr (v.I.map iE):: .arr (v.L.map .str)::(X.x s J).rs)=some (.tup [],((fo X v).x s []).bx 3:: .fz (v.I.map iE):: .fz (v.L.map .str)::((fo X v).x s []).rs):=by
 replace hm:=fuel hm;obtain⟨m,rfl,hm⟩:=hm;apply NE m (X.x s J) v.k v.n v.s v.I.length v.L.length (v.I.map iE) (v.L.map .str);unfold Bz;have ht:List.take (X.x s J).sn (X.x s J).st=X.st.map Va.e:=by
  show List.take X.st.length (X.st.map Va.e++J)=_;rw[List.take_append_of_le_length (by rw[lβ];exact Nat.le_refl _),lκ (by rw[lβ];exact Nat.le_refl _)]
 simp only[ht,List.drop_zero,lκ (l:=v.I.map iE) (show(v.I.map iE).length<=v.I.length by rw[lβ];exact Nat.le_refl _),lκ (l:=v.L.map Da.str) (show(v.L.map Da.str).length<=v.L.length by rw[lβ];exact Nat.le_refl _)];rw[show c8 ((X.st.map Va.e).length+List.length [Da.agg [Da.int .i64 v.k,Da.int .i64 v.n,Da.str v.s,Da.slice 1 (v.I.map iE),Da.slice 1 (v.L.map .str)]]) 80=true from kX (by rw[lβ];show X.st.length+1<_;omega) (by omega),be]
 have h2:X.st.map Va.e++[Da.agg [Da.int .i64 v.k,Da.int .i64 v.n,Da.str v.s,Da.slice 1 (v.I.map iE),Da.slice 1 (v.L.map .str)]]=(X.st++[v]).map Va.e:=by rw[List.map_append];rfl
 rw[h2];unfold Xt.x fo;simp only[lβ,mκ]
def Jl (v:Va)(e:Int)(hs:X.st.length<1501)(hm:2<=m):∃J',Ω m 228 [.box 0 0,.p v.e,pI e] ((X.x s J).hp 0)=some (pI e,((eF (v,e) X).1.x s J').hp 0):=by
 replace hm:=fuel hm;obtain⟨m,rfl,hm⟩:=hm;refine⟨bif az e 0 then[]else J,?_⟩
 apply JZ m (X.x s J) v.r e;unfold xn eF;cases az e 0 with
 |false=>rfl
 |true=>
  rw[be];refine(aa (Rp s X J v hs (m:=m) (by omega)) _).trans ?_;rw[c3,aB,OT];rfl
def ko (s:Xs)(g:Nat)(cap:List D)(x:Cd)(l:List Va)(r:Option (Xt×Int))(X:Xt)(J:LD)(m:Nat):Prop:=∀y,r=some y->∃J',Ω m g (.box 0 0:: .p x.e:: .p (.slice 5 (l.map Va.e))::cap) ((X.x s J).hp 0)=some (pI y.2,(y.1.x s J').hp 0)
def pR (v:Va)(hv:Lg v)(hs:X.st.length<1501)(hm:3<=m):(dC lay0.tab m 55 [(.p v.r.e)] [] fun d5 o6=>
 ne d5 fun r7=>
 ab r7 fun d8 r9=>
 dP d8 fun x10=>
 ba .i64 x10 fun i11=>
 ab r9 fun d12 r13=>
 dP d12 fun x14=>
 ba .i64 x14 fun i15=>
 ab r13 fun d16 r17=>
 dP d16 fun x18=>
 eR x18 fun s19=>
 ab r17 fun d20 r21=>
 dF 0 1 d20 fun n22=>
 ab r21 fun d23 r24=>
 dF 1 1 d23 fun n25=>
 af r24<|
 ab o6 fun u26 o27=>
 cO u26 fun l28=>
 ab o27 fun u29 o30=>
 cO u29 fun l31=>
 af o30<|
 dC lay0.tab m 56 [(.box 0 0),(.agg [(pI i11),(pI i15),(pS s19),(.arr 1 0 n22 1),(.arr 2 0 n25 1)])] (Xn.hp 2 ({(X.x s J)with ls:=l28,fs:=l31,st:=(X.x s J).ls,es:=(X.x s J).fs}:Xn)++[(.arr (X.x s J).st),(.arr (X.x s J).es)]) fun d32 o33=>
 ff d32 fun r34=>
 af r34<|
 SP o33 fun u35 l36 l37=>
 some ((pI 0),(u35.hp 0)))=some (pI 0,((fo X v).x s []).hp 0):=by
 refine(aa (gQ v hv (m:=m) (by omega)) _).trans ?_;simp only[Va.cl,Va.ch,nM,aR,aY,bW,iU,eC,aB,eE];refine(aa (AR s X J v hs (m:=m) (by omega)) _).trans ?_;rw[c3,aB,Vj]
def L2 (x:Cd)(l:List Va)(hv:Lg x.v)(hs:X.st.length<1501)(hm:4<=m):ko s 225 [.p (.ptr (.agg [.fn 148 []]))] x l (some (fo X x.v,0)) X J m:=by
 rintro y hy;cases hy
 refine⟨[],?_⟩;replace hm:=fuel hm;obtain⟨m,rfl,hm⟩:=hm;apply NF m (X.x s J) x.r (l.map Va.e);unfold BA;have h1:Ω m 148 [.box 0 0,.p x.r.e] ((X.x s J).hp 0)=some (.p x.v.r.e,(X.x s J).hp 0):=by
  obtain⟨m,rfl,-⟩:=fuel hm;apply RQ m (X.x s J) x.r;rfl
 refine(aa h1 _).trans ?_;rw[aY,ZW];refine(bM _ _).trans ?_;exact pR s X J x.v hv hs hm
def L5 (x:Cd)(l:List Va)(hs:X.st.length<1501)(hm:4<=m):ko s 225 [.p (.ptr (.agg [.fn 151 []]))] x l (some (fo X ⟨3,0,s.ky,[],[]⟩,0)) X J m:=by
 rintro y hy;cases hy
 refine⟨[],?_⟩;replace hm:=fuel hm;obtain⟨m,rfl,hm⟩:=hm;apply NI m (X.x s J) x.r (l.map Va.e);unfold BD;have h1:Ω m 151 [.box 0 0,.p x.r.e] ((X.x s J).hp 0)=some (.p (Va.r ⟨3,0,s.ky,[],[]⟩).e,(X.x s J).hp 0):=by
  obtain⟨m,rfl,-⟩:=fuel hm;apply RT m (X.x s J) x.r;rfl
 refine(aa h1 _).trans ?_;rw[aY,ZW];refine(bM _ _).trans ?_;exact pR s X J ⟨3,0,s.ky,[],[]⟩ ⟨by simp,by simp⟩ hs hm
def jH {α:Type}{l:List α}{x:Int}{y:α}(h:dj l x=some y):0<=x/\x<l.length/\l[x.toNat]?=some y:=by
 unfold dj at h;by_cases h0:0<=x
 ·rw[if_pos h0]at h;have:=(List.getElem?_eq_some_iff.1 h).1;exact⟨h0,by omega,h⟩
 ·rw[if_neg h0]at h;cases h
def L3 (x:Cd)(l:List Va)(hv:∀v∈X.ls,Lg v)(hs:X.st.length<1501)(hm:4<=m):ko s 225 [.p (.ptr (.agg [.fn 149 []]))] x l ((dj X.ls x.a).map fun v=>(fo X v,0)) X J m:=by
 rintro y hy
 cases ha:dj X.ls x.a with
 |none=>rw[ha]at hy;cases hy
 |some v=>
 rw[ha]at hy;cases hy;obtain⟨g1,g2,g3⟩:=jH ha;refine⟨[],?_⟩;replace hm:=fuel hm;obtain⟨m,rfl,hm⟩:=hm;apply NG m (X.x s J) x.r (l.map Va.e);unfold BB;have h1:Ω m 149 [.box 0 0,.p x.r.e] ((X.x s J).hp 0)=some (.p v.r.e,(X.x s J).hp 0):=by
  obtain⟨m,rfl,-⟩:=fuel hm;apply RR m (X.x s J) x.r;unfold HD;show iL (aL 0 x.a) (iL (aG x.a (X.ls.length:Int)) (cL ((X.ls.map Va.e)[0+x.a.toNat]?) _) _) _=_;rw[show aL 0 x.a=true by rw[bj];exact lν g1,hZ g2,be,be,Nat.zero_add,lξ,g3];rfl
 refine(aa h1 _).trans ?_;rw[aY,ZW];refine(bM _ _).trans ?_;exact pR s X J v (hv v (nJ ha)) hs hm
def L4 (x:Cd)(l:List Va)(hv:∀v∈X.fs,Lg v)(hs:X.st.length<1501)(hm:4<=m):ko s 225 [.p (.ptr (.agg [.fn 150 []]))] x l ((dj X.fs x.a).map fun v=>(fo X v,0)) X J m:=by
 rintro y hy
 cases ha:dj X.fs x.a with
 |none=>rw[ha]at hy;cases hy
 |some v=>
 rw[ha]at hy;cases hy;obtain⟨g1,g2,g3⟩:=jH ha;refine⟨[],?_⟩;replace hm:=fuel hm;obtain⟨m,rfl,hm⟩:=hm;apply NH m (X.x s J) x.r (l.map Va.e);unfold BC;have h1:Ω m 150 [.box 0 0,.p x.r.e] ((X.x s J).hp 0)=some (.p v.r.e,(X.x s J).hp 0):=by
  obtain⟨m,rfl,-⟩:=fuel hm;apply RS m (X.x s J) x.r;unfold HE;show iL (aL 0 x.a) (iL (aG x.a (X.fs.length:Int)) (cL ((X.fs.map Va.e)[0+x.a.toNat]?) _) _) _=_;rw[show aL 0 x.a=true by rw[bj];exact lν g1,hZ g2,be,be,Nat.zero_add,lξ,g3];rfl
 refine(aa h1 _).trans ?_;rw[aY,ZW];refine(bM _ _).trans ?_;exact pR s X J v (hv v (nJ ha)) hs hm
def vU (v w:Va):Da.agg (splice (cells (aw.e w.r)) 0 (cells (Da.agg [Da.int .i64 v.k,Da.int .i64 v.n,Da.str v.s,Da.slice 1 (List.take v.I.length (List.drop 0 (v.I.map iE))),Da.slice 1 (List.take v.L.length (List.drop 0 (v.L.map Da.str)))])))=v.e:=by
 rw[List.drop_zero,List.drop_zero,lκ (by rw[lβ];exact Nat.le_refl _),lκ (by rw[lβ];exact Nat.le_refl _)];rfl
def L6 (x:Cd)(l:List Va)(hv:∀v∈l,Lg v)(hm:4<=m):ko s 226 [.p (.ptr (.agg [.fn 153 []]))] x l (l.head?.bind fun v=>(dj X.ls x.a).map fun _=>({X with ls:=X.ls.set x.a.toNat v},0)) X J m:=by
 rintro y hy
 cases l with
 |nil=>cases hy
 |cons v r=>
 rw[List.head?_cons,Option.bind_some]at hy;cases ha:dj X.ls x.a with
 |none=>rw[ha]at hy;cases hy
 |some w=>
 rw[ha]at hy;cases hy;obtain⟨g1,g2,g3⟩:=jH ha;refine⟨J,?_⟩;replace hm:=fuel hm;obtain⟨m,rfl,hm⟩:=hm;apply NK m (X.x s J) x.r ((v::r).map Va.e);unfold BF;have h1:Ω m 153 [.box 0 0,.p x.r.e] ((X.x s J).hp 0)=some (.el 1 x.a.toNat 0,(X.x s J).hp 0):=by
  obtain⟨m,rfl,-⟩:=fuel hm;apply RU m (X.x s J) x.r;unfold HF;show iL (aL 0 x.a) (iL (aG x.a (X.ls.length:Int)) _ _) _=_;rw[show aL 0 x.a=true by rw[bj];exact lν g1,hZ g2,be,be];show some (D.el 1 (0+x.a.toNat) 0,_)=_;rw[Nat.zero_add]
 refine(aa h1 _).trans ?_;rw[show ∀K,SM 1 0 (.el 1 x.a.toNat 0) K=K x.a.toNat from fun K=>by unfold SM;simp[iL]];refine(bM _ _).trans ?_;rw[show bU ((v::r).map Va.e) 0=some v.e from rfl,bG,OS];refine(aa (gQ v (hv v lυ) (m:=m) (by omega)) _).trans ?_;simp only[Va.cl,Va.ch,nM,aR,aY,bW,iU,eC,aB,eE];show cL ((X.ls.map Va.e)[x.a.toNat]?) _=_;rw[lξ,g3];show ao w.e _=_;rw[OS,vU];show some (D.p (Da.int .i64 0),Xn.hp 0 {(X.x s J)with ls:=(X.ls.map Va.e).set x.a.toNat v.e})=_;rw[<-List.map_set];unfold Xt.x;simp only[List.length_set]
def L7 (x:Cd)(l:List Va)(hv:∀v∈l,Lg v)(hm:4<=m):ko s 226 [.p (.ptr (.agg [.fn 154 []]))] x l (l.head?.bind fun v=>(dj X.fs x.a).map fun _=>({X with fs:=X.fs.set x.a.toNat v},0)) X J m:=by
 rintro y hy
 cases l with
 |nil=>cases hy
 |cons v r=>
 rw[List.head?_cons,Option.bind_some]at hy;cases ha:dj X.fs x.a with
 |none=>rw[ha]at hy;cases hy
 |some w=>
 rw[ha]at hy;cases hy;obtain⟨g1,g2,g3⟩:=jH ha;refine⟨J,?_⟩;replace hm:=fuel hm;obtain⟨m,rfl,hm⟩:=hm;apply NL m (X.x s J) x.r ((v::r).map Va.e);unfold BG;have h1:Ω m 154 [.box 0 0,.p x.r.e] ((X.x s J).hp 0)=some (.el 2 x.a.toNat 0,(X.x s J).hp 0):=by
  obtain⟨m,rfl,-⟩:=fuel hm;apply RV m (X.x s J) x.r;unfold HG;show iL (aL 0 x.a) (iL (aG x.a (X.fs.length:Int)) _ _) _=_;rw[show aL 0 x.a=true by rw[bj];exact lν g1,hZ g2,be,be];show some (D.el 2 (0+x.a.toNat) 0,_)=_;rw[Nat.zero_add]
 refine(aa h1 _).trans ?_;rw[show ∀K,SM 2 0 (.el 2 x.a.toNat 0) K=K x.a.toNat from fun K=>by unfold SM;simp[iL]];refine(bM _ _).trans ?_;rw[show bU ((v::r).map Va.e) 0=some v.e from rfl,bG,OS];refine(aa (gQ v (hv v lυ) (m:=m) (by omega)) _).trans ?_;simp only[Va.cl,Va.ch,nM,aR,aY,bW,iU,eC,aB,eE];show cL ((X.fs.map Va.e)[x.a.toNat]?) _=_;rw[lξ,g3];show ao w.e _=_;rw[OS,vU];show some (D.p (Da.int .i64 0),Xn.hp 0 {(X.x s J)with fs:=(X.fs.map Va.e).set x.a.toNat v.e})=_;rw[<-List.map_set];unfold Xt.x;simp only[List.length_set]
def oh (r:Va×Int)(hs:X.st.length<1501)(hm:2<=m):∃J',(dC lay0.tab m 228 [(.box 0 0),(.p r.1.e),(pI r.2)] ((X.x s J).hp 0) fun d14 o15=>
 dP d14 fun x16=>
 ba .i64 x16 fun i17=>
 Q3 o15 fun u18=>
 some ((pI i17),(u18.hp 0)))=some (pI (eF r X).2,((eF r X).1.x s J').hp 0):=by
 obtain⟨J',h⟩:=Jl s X J r.1 r.2 hs hm;refine⟨J',(aa h _).trans ?_⟩;rw[aY,bW,OT];rfl
def Ô (v:Va)(K:aw->R):ao v.e K=K v.r:=rfl
def wN (x:Cd)(l:List Va)(o:LN)(hs:X.st.length<1501)(hm:4<=m):ko s 227 [.p (.ptr (.agg [.str o]))] x l (l.head?.map fun v=>eF (QS o v) X) X J m:=by
 rintro y hy
 cases l with
 |nil=>cases hy
 |cons v r=>
 cases hy;replace hm:=fuel hm;obtain⟨m,rfl,hm⟩:=hm;obtain⟨J',hJ⟩:=oh s X J (QS o v) hs (m:=m) (by omega);refine⟨J',?_⟩;apply J0 m (X.x s J) x.r ((v::r).map Va.e) o;unfold xp;rw[show bU ((v::r).map Va.e) 0=some v.e from rfl,bG,OS];refine(aa (My o v (m:=m) (by omega)) _).trans ?_;simp only[c3,aR,aY,Ô,bW,aB];exact hJ
def pM (o:LN)(l:List Va)(X:Xt):Option (Xt×Int):=match l with|a::b::_=>some (eF (Q2 o a b) X)|_=>none
def bY (x:Cd)(l:List Va)(o:LN)(hw:∀v∈l,Wk v)(hs:X.st.length<1501)(hm:1512<=m):ko s 230 [.p (.ptr (.agg [.str o]))] x l (pM o l X) X J m:=by
 rintro y hy
 match l,hw,hy with
 |a::b::r,hw,hy=>
 cases hy;replace hm:=fuel hm;obtain⟨m,rfl,hm⟩:=hm;obtain⟨J',hJ⟩:=oh s X J (Q2 o a b) hs (m:=m) (by omega);refine⟨J',?_⟩;apply yQ m (X.x s J) x.r ((a::b::r).map Va.e) o;unfold oA;rw[show bU ((a::b::r).map Va.e) 0=some a.e from rfl,bG,OS,show bU ((a::b::r).map Va.e) 1=some b.e from rfl,bG,OS];refine(aa (Jg o a b (hw a lυ) (hw b (mα _ lυ)) (m:=m) (by omega)) _).trans ?_;simp only[sq,c3,aR,aY,Ô,bW,aB];exact hJ
def eN (x:Cd)(l:List Va)(o:LN)(hw:∀v∈l,Wk v)(hl:l.length<=100)(hs:X.st.length<1501)(hm:1512<=m):ko s 232 [.p (.ptr (.agg [.str o]))] x l ((jh o l).map fun r=>eF r X) X J m:=by
 rintro y hy
 cases hb:jh o l with
 |none=>rw[hb]at hy;cases hy
 |some r=>
 rw[hb]at hy;cases hy;replace hm:=fuel hm;obtain⟨m,rfl,hm⟩:=hm;obtain⟨J',hJ⟩:=oh s X J r hs (m:=m) (by omega);refine⟨J',?_⟩;apply BY m (X.x s J) x.r (l.map Va.e) o;unfold rk;refine(aa (ES o l hw hl hb (m:=m) (by omega)) _).trans ?_;simp only[sq,c3,aR,aY,Ô,bW,aB];exact hJ
def YM (v:Ef)(K:ef->R):bP v.e K=K ⟨v.k,v.n,v.a,v.b⟩:=rfl
def qm (x:Cd)(l:List Va)(q:Int)(hs:X.es.length<1501)(hm:2<=m):ko s 236 [.p (.ptr (.agg [.int .i64 q]))] x l ((oJ q l X.es.length).map fun r=>sk r X) X J m:=by
 rintro y hy
 cases hb:oJ q l X.es.length with
 |none=>rw[hb]at hy;cases hy
 |some r=>
 rw[hb]at hy;cases hy;replace hm:=fuel hm;obtain⟨m,rfl,hm⟩:=hm;refine⟨J,?_⟩;apply JU m (X.x s J) x.r (l.map Va.e) q;unfold xk;refine(aa (VT q l X.es.length hb (m:=m) (by omega)) _).trans ?_;simp only[Ll,c3,aR,aY,YM,bW,aB];unfold sk;cases az r.2 0 with
 |false=>rfl
 |true=>
  have ht:List.take (X.x s J).en (X.x s J).es=X.es.map Ef.e:=by
   show List.take X.es.length (X.es.map Ef.e)=_;rw[lκ (by rw[lβ];exact Nat.le_refl _)]
  rw[be,ht,show c8 ((X.es.map Ef.e).length+List.length [Da.agg [Da.int .i64 r.1.k,Da.str r.1.n,Da.int .i64 r.1.a,Da.int .i64 r.1.b]]) 40=true from kX (by rw[lβ];show X.es.length+1<_;omega) (by omega),be]
  have h2:X.es.map Ef.e++[Da.agg [Da.int .i64 r.1.k,Da.str r.1.n,Da.int .i64 r.1.a,Da.int .i64 r.1.b]]=(X.es++[r.1]).map Ef.e:=by rw[List.map_append];rfl
  rw[h2,cond_true];unfold Xt.x;simp only[lβ]
def Gc (x:Cd)(l:List Va)(X:Xt):Xt×Int:=match l with|[]=>({X with pc:=x.a},0)|v::_=>bif az v.n 0 then({X with pc:=x.a},0)else(X,0)
def Hl (x:Cd)(l:List Va)(hm:1<=m):ko s 160 [] x l (some (Gc x l X)) X J m:=by
 rintro y hy;cases hy
 replace hm:=fuel hm;obtain⟨m,rfl,hm⟩:=hm;refine⟨J,?_⟩;apply RN m (X.x s J) x.r (l.map Va.e);unfold HB;cases l with
 |nil=>rfl
 |cons v r=>
  rw[show az ((((v::r).map Va.e).length:Nat):Int) 0=false by rw[cE,lζ];simp;omega,bo,show bU ((v::r).map Va.e) 0=some v.e from rfl,bG,OS];show iL (az v.n 0) _ _=_;have e:Gc x (v::r) X=bif az v.n 0 then({X with pc:=x.a},0)else(X,0):=rfl
  rw[e];cases az v.n 0<;>rfl
def Q8 (x:Cd)(l:List Va)(hm:1<=m):ko s 164 [] x l (some (X,0)) X J m:=by
 rintro y hy;cases hy
 replace hm:=fuel hm;obtain⟨m,rfl,hm⟩:=hm;refine⟨J,?_⟩;apply RX m (X.x s J) x.r (l.map Va.e);rfl
def Q9 (x:Cd)(l:List Va)(hm:1<=m):ko s 166 [] x l (some (X,26)) X J m:=by
 rintro y hy;cases hy
 replace hm:=fuel hm;obtain⟨m,rfl,hm⟩:=hm;refine⟨J,?_⟩;apply RY m (X.x s J) x.r (l.map Va.e);rfl
def Px (l:List Va)(X:Xt):Xt:={X with done:=true,ok:=1,ov:=l.headD v0,tT:=[],tK:=[],mn:=[],ar:=[],fu:=0}
def Ja (x:Cd)(l:List Va)(hv:∀v∈l,Lg v)(hm:4<=m):ko s 165 [] x l (some (Px l X,0)) X J m:=by
 rintro y hy;cases hy
 replace hm:=fuel hm;obtain⟨m,rfl,hm⟩:=hm;refine⟨J,?_⟩;apply JX m (X.x s J) x.r (l.map Va.e);unfold xm Px;cases l with
 |nil=>rfl
 |cons v r=>
  rw[hZ (show(0:Int)<((((v::r).map Va.e).length:Nat):Int) by rw[lβ,List.length_cons];omega),be,show bU ((v::r).map Va.e) 0=some v.e from rfl,bG,OS];refine(aa (gQ v (hv v lυ) (m:=m) (by omega)) _).trans ?_;simp only[Va.cl,Va.ch,nM,aR,aY,bW,iU,eC,aB,eE,List.drop_zero,lκ (l:=v.I.map iE) (show(v.I.map iE).length<=v.I.length by rw[lβ];exact Nat.le_refl _),lκ (l:=v.L.map Da.str) (show(v.L.map Da.str).length<=v.L.length by rw[lβ];exact Nat.le_refl _)];rfl
def Kh (s:Xs)(x:Cd)(l:List Va)(X:Xt):Option (Xt×Int):=
 match l with
 |[]=>none
 |v::r=>bif aG 32 (v.s.length:Int)then some (X,5)else(dj s.c x.a).bind fun t=>(dj t.methods x.b).map fun q=>({X with done:=true,ok:=2,ov:=v0,tT:=t.name,tK:=v.s,mn:=q.name,ar:=r,fu:=0},0)
def wU {t:Ct}{q:Cm}(x:Cd)(ht:dj s.c x.a=some t)(hq:dj t.methods x.b=some q)(hm:1<=m):Ω m 162 [.box 0 0,.p x.e] ((X.x s J).hp 0)=some (.tup [.p t.e,.p q.e],(X.x s J).hp 0):=by
 replace hm:=fuel hm;obtain⟨m,rfl,hm⟩:=hm;apply JV m (X.x s J) x.r;unfold xl;show cL (bU (s.c.map Ct.e) x.a) _=_;rw[aU,bf,ht,bG,Cs];show cL (bU (t.methods.map Cm.e) x.b) _=_;rw[aU,bf,hq,bG,FQ];rfl
def Q7 (x:Cd)(l:List Va)(hv:∀v∈l,Lg v)(hl:l.length<1501)(hm:1506<=m):ko s 163 [] x l (Kh s x l X) X J m:=by
 rintro y hy
 unfold Kh at hy;cases l with
 |nil=>cases hy
 |cons v r=>
 replace hm:=fuel hm;obtain⟨m,rfl,hm⟩:=hm;refine⟨J,?_⟩;apply RM m (X.x s J) x.r ((v::r).map Va.e);unfold HA;rw[show bU ((v::r).map Va.e) 0=some v.e from rfl,bG,OS];show iL (aG 32 (v.s.length:Int)) _ _=_;simp only at hy;cases h5:aG 32 (v.s.length:Int)with
 |true=>rw[h5,cond_true]at hy;cases hy;rfl
 |false=>
 rw[h5,cond_false]at hy;rw[bo];cases ht:dj s.c x.a with
 |none=>rw[ht]at hy;cases hy
 |some t=>
 rw[ht,Option.bind_some]at hy;cases hq:dj t.methods x.b with
 |none=>rw[hq]at hy;cases hy
 |some q=>
 rw[hq]at hy;cases hy;refine(aa (wU s X J x ht hq (m:=m) (by omega)) _).trans ?_;simp only[c3,aR,aY,Cs,FQ,aB];refine(bM _ _).trans ?_;rw[bG,OS,show aL 1 ((((v::r).map Va.e).length:Nat):Int)=true by rw[bj];exact lν (by simp;omega),be];have hd:List.take (((v::r).map Va.e).length - Int.toNat 1) (List.drop (Int.toNat 1) ((v::r).map Va.e))=r.map Va.e:=by
  show List.take _ (r.map Va.e)=_;rw[lκ (by simp)]
 rw[hd];refine(aa (qq r (by simp at hl;omega) (fun u hu=>hv u (mα _ hu)) (m:=m) (by omega)) _).trans ?_;simp only[eC,aR,eE,aB,List.drop_zero,lκ (l:=r.map Va.e) (show(r.map Va.e).length<=r.length by rw[lβ];exact Nat.le_refl _)];rfl
end
end
section
def lr {v:Va}(h:Wk v):Lg v:=⟨by have:=h.I;omega,by have:=h.L;omega⟩
def Qv (q:Cm):Int:=bif az q.res 0 then 0 else 1
abbrev HJ:=List Va->Xt->Option (Xt×Int)
def Gb (s:Xs)(x:Cd):Option (Int×HJ):=
 bif az x.op 1 then some (0,fun _ X=>some (fo X x.v,0))else
 bif az x.op 2 then some (0,fun _ X=>(dj X.ls x.a).map fun v=>(fo X v,0))else
 bif az x.op 4 then some (0,fun _ X=>(dj X.fs x.a).map fun v=>(fo X v,0))else
 bif az x.op 6 then some (0,fun _ X=>some (fo X ⟨3,0,s.ky,[],[]⟩,0))else
 bif az x.op 3 then some (1,fun l X=>l.head?.bind fun v=>(dj X.ls x.a).map fun _=>({X with ls:=X.ls.set x.a.toNat v},0))else
 bif az x.op 5 then some (1,fun l X=>l.head?.bind fun v=>(dj X.fs x.a).map fun _=>({X with fs:=X.fs.set x.a.toNat v},0))else
 bif az x.op 7 then some (1,fun l X=>l.head?.map fun v=>eF (QS [45] v) X)else
 bif az x.op 8 then some (1,fun l X=>l.head?.map fun v=>eF (QS [33] v) X)else
 bif az x.op 9 then some (2,pM [43])else
 bif az x.op 10 then some (2,pM [43])else
 bif az x.op 11 then some (2,pM [45])else
 bif az x.op 12 then some (2,pM [42])else
 bif az x.op 13 then some (2,pM [47])else
 bif az x.op 14 then some (2,pM [37])else
 bif az x.op 15 then some (2,pM [61,61])else
 bif az x.op 16 then some (2,pM [33,61])else
 bif az x.op 17 then some (2,pM [60])else
 bif az x.op 18 then some (2,pM [60,61])else
 bif az x.op 19 then some (2,pM [62])else
 bif az x.op 20 then some (2,pM [62,61])else
 bif az x.op 21 then some (1,fun l X=>(jh [108,101,110] l).map fun r=>eF r X)else
 bif az x.op 22 then some (2,fun l X=>(jh [97,116] l).map fun r=>eF r X)else
 bif az x.op 23 then some (2,fun l X=>(jh [97,112,112,101,110,100] l).map fun r=>eF r X)else
 bif az x.op 24 then some (3,fun l X=>(jh [115,101,116] l).map fun r=>eF r X)else
 bif az x.op 25 then some (1,fun l X=>(jh [115,116,114] l).map fun r=>eF r X)else
 bif az x.op 26 then some (x.a,fun l X=>(jh [105,110,116,115] l).map fun r=>eF r X)else
 bif az x.op 27 then some (x.a,fun l X=>(jh [115,116,114,105,110,103,115] l).map fun r=>eF r X)else
 bif az x.op 28 then some (0,fun l X=>some (Gc x l X))else
 bif az x.op 29 then some (1,fun l X=>some (Gc x l X))else
 bif az x.op 30 then(fA s.c x.a x.b).map fun q=>(1+(q.params.length:Int),Kh s x)else
 bif az x.op 31 then some (1,fun _ X=>some (X,0))else
 bif az x.op 32 then some (Qv s.q,fun l X=>some (Px l X,0))else
 bif az x.op 33 then some (0,fun _ X=>some (X,26))else
 bif az x.op 34 then some (2,fun l X=>(oJ 1 l X.es.length).map fun r=>sk r X)else
 bif az x.op 35 then some (3,fun l X=>(oJ 2 l X.es.length).map fun r=>sk r X)else
 bif az x.op 36 then some (1,fun l X=>(oJ 3 l X.es.length).map fun r=>sk r X)else
 none
def vp (i:Int)(f:HJ)(X:Xt):Option (Xt×Int):=bif aL 0 i&&aL i X.st.length then f (X.st.drop (X.st.length - i.toNat)) {X with pc:=X.pc+1,st:=X.st.take (X.st.length - i.toNat)}else none
def pX (s:Xs)(X:Xt):Option (Xt×Int):=(dj s.q.code X.pc).bind fun x=>(Gb s x).bind fun p=>vp p.1 p.2 X
structure Wx (s:Xs)(X:Xt):Prop where
 ls:∀v∈X.ls,Wk v
 fs:∀v∈X.fs,Wk v
 st:∀v∈X.st,Wk v
 n:X.st.length<=100
 e:X.es.length<=100
 x:∀y∈s.q.code,Wk y.v
 c:s.q.code.length<1501
 p:0<=X.pc/\X.pc<=1501
def ñ (c:Xn)(r:Int):List Ob:=c.bx 2:: .tabO 6 r::(c.rs++[.box [.box 0 0]])
def EP (s:Xs)(r:Int)(G:R)(y:Xt×Int):Prop:=∃J',G=some (pI y.2,ñ (y.1.x s J') r)
variable {y:Xt×Int}
def cD {s:Xs}{r:Int}{b:Bool}{A B:R}{p q:Option (Int×HJ)}{X:Xt}(h:((bif b then p else q).bind fun p=>vp p.1 p.2 X)=some y)(h1:(p.bind fun p=>vp p.1 p.2 X)=some y->EP s r A y)(h2:(q.bind fun p=>vp p.1 p.2 X)=some y->EP s r B y):EP s r (iL b A B) y:=by
 cases b
 ·exact h2 h
 ·exact h1 h
section
variable {m:Nat} (s:Xs) (X:Xt) (J:LD) (x:Cd) (r:Int) (w:Wx s X) (hm:1520<=m)
include w hm
variable {g:Nat} {cap:List D} {f:HJ}
def Yc {i:Int}(h:vp i f X=some y)(hd:∀(Y:Xt) J l,Wx s {Y with pc:=0}->(∀v∈l,Wk v)->l.length<=100->Y.st.length<1501->ko s g cap x l (f l Y) Y J m):EP s r (ZD (dC lay0.tab m) (X.x s J) x.r r g cap i) y:=by
 unfold vp at h;cases hc:aL 0 i&&aL i X.st.length with
 |false=>rw[hc]at h;cases h
 |true=>
 rw[hc,cond_true]at h;rw[lγ,bj,bj,lδ,lδ]at hc;have hn:=w.n;have hp:=w.p;obtain⟨k,rfl⟩:=Int.eq_ofNat_of_zero_le hc.1;have hk:k<=X.st.length:=by omega
 rw[Int.toNat_natCast]at h;have hw1:ag .i64 ((X.st.length:Int) - (k:Int))=((X.st.length - k:Nat):Int):=by rw[fO (by omega) (by omega)];omega
 have hw2:ag .i64 (X.pc+1)=X.pc+1:=fO (by omega) (by omega);have l0:aL 0 ((X.st.length - k:Nat):Int)=true:=by rw[bj];exact lν (by omega)
 have l1:aL ((X.st.length - k:Nat):Int) (X.st.length:Int)=true:=by rw[bj];exact lν (by omega)
 have key:∀(L:LD) (n:Nat),List.take n (List.drop 0 L)=(X.st.drop (X.st.length - k)).map Va.e->EP s r (Ã (dC lay0.tab m) (X.x s J) x.r r g cap (k:Int) (X.x s J).st L n) y:=fun L n hL=>by
  have hY:=hd {X with pc:=X.pc+1,st:=X.st.take (X.st.length - k)} ((X.st.drop (X.st.length - k)).map Va.e++J) (X.st.drop (X.st.length - k)) ⟨w.ls,w.fs,fun v hv=>w.st v (qθ hv),by show(X.st.take (X.st.length - k)).length<=100;rw[mγ];omega,w.e,w.x,w.c,show(0:Int)<=0/\(0:Int)<=1501 by omega⟩ (fun v hv=>w.st v (qμ hv)) (by rw[mυ];omega) (by show(X.st.take (X.st.length - k)).length<1501;rw[mγ];omega) y h
  obtain⟨J',hJ⟩:=hY;refine⟨J',?_⟩;unfold Ã;show iL (aL 0 (ag .i64 ((X.st.length:Int) - (k:Int)))) (iL (aL (ag .i64 ((X.st.length:Int) - (k:Int))) (X.st.length:Int)) _ _) _=_;rw[hw1,l0,l1,be,be,hL];have e:({(X.x s J)with aP:=(ag .i64 ((X.x s J).aP+1)),sn:=(Int.toNat (ag .i64 (((X.x s J).sn:Int) - (k:Int))) - 0),st:=(X.x s J).st}:Xn)=Xt.x s {X with pc:=X.pc+1,st:=X.st.take (X.st.length - k)} ((X.st.drop (X.st.length - k)).map Va.e++J):=by
   rw[show ag .i64 ((X.x s J).aP+1)=X.pc+1 from hw2,show Int.toNat (ag .i64 (((X.x s J).sn:Int) - (k:Int))) - 0=(X.st.take (X.st.length - k)).length by rw[show((X.x s J).sn:Int)=(X.st.length:Int)from rfl,hw1,mγ];omega];have h3:(X.x s J).st=(X.st.take (X.st.length - k)).map Va.e++((X.st.drop (X.st.length - k)).map Va.e++J):=by
    rw[<-mξ,<-List.map_append,List.take_append_drop];rfl
   rw[h3];rfl
  rw[e];refine(aa hJ _).trans ?_;rw[aY,bW,OT];rfl
 have hX:EP s r (Å (dC lay0.tab m) (X.x s J) x.r r g cap (k:Int)) y:=by
  unfold Å;have e1:0+Int.toNat (ag .i64 (((X.x s J).sn:Int) - (k:Int)))=X.st.length - k:=by rw[show((X.x s J).sn:Int)=(X.st.length:Int)from rfl,hw1,Nat.zero_add,Int.toNat_natCast]
  have e2:(X.x s J).sn - Int.toNat (ag .i64 (((X.x s J).sn:Int) - (k:Int)))=k:=by
   rw[show((X.x s J).sn:Int)=(X.st.length:Int)from rfl,hw1,Int.toNat_natCast];show X.st.length - _=_;omega
  rw[e1,e2];have hlen:X.st.length - k+k<=(X.x s J).st.length:=by
   show _<=(X.st.map Va.e++J).length;rw[mη,lβ];omega
  rw[aa (UU (X.x s J).st (X.st.length - k) k hlen (by omega) (m:=m) (by omega)),eC];simp only[aR,eE,aB];refine key _ _ ?_;rw[List.drop_zero,List.take_take,Nat.min_self];show List.take k (List.drop (X.st.length - k) (X.st.map Va.e++J))=_;rw[List.drop_append_of_le_length (by rw[lβ];omega),List.take_append_of_le_length (by rw[mυ,lβ];omega),<-List.map_drop,lκ (by rw[lβ,mυ];omega)]
 unfold ZD;show EP s r (iL (aL 0 (ag .i64 ((X.st.length:Int) - (k:Int)))) (iL (aL (ag .i64 ((X.st.length:Int) - (k:Int))) (X.st.length:Int)) (iL (Nat.beq (Int.toNat (ag .i64 ((X.st.length:Int) - (k:Int)))) X.st.length) (iL _ _ _) _) _) _) y;rw[hw1,l0,l1,be,be,Int.toNat_natCast];cases hb:Nat.beq (X.st.length - k) X.st.length with
 |false=>exact hX
 |true=>
  rw[be];cases Nat.blt 0 (List.length (X.x s J).st)with
  |false=>exact hX
  |true=>
   rw[be,aa (Yt [] (by simp) (m:=m) (by omega)),eC];simp only[aR,eE,aB];refine key _ _ ?_;have:=lθ hb;rw[this,List.drop_length];rfl
def fj {i:Int}(h:((some (i,f)).bind fun p:Int×HJ=>vp p.1 p.2 X)=some y)(hd:∀(Y:Xt) J l,Wx s {Y with pc:=0}->(∀v∈l,Wk v)->l.length<=100->Y.st.length<1501->ko s g cap x l (f l Y) Y J m):EP s r (mD (dC lay0.tab m) (X.x s J) x.r r i g cap) y:=by
 have hc:Ω m 235 [.p x.r.e,.p (.ptr (.agg [.int .i64 i]))] []=some (pI i,[]):=by
  obtain⟨m,rfl,-⟩:=fuel (show 1519+1<=m from hm);apply JW m x.r i;rfl
 unfold mD;rw[aa hc];simp only[aY,bW,aB];exact Yc s X J x r w hm h hd
def ZE (h:((some (x.a,f)).bind fun p:Int×HJ=>vp p.1 p.2 X)=some y)(hd:∀(Y:Xt) J l,Wx s {Y with pc:=0}->(∀v∈l,Wk v)->l.length<=100->Y.st.length<1501->ko s g cap x l (f l Y) Y J m):EP s r (Ä (dC lay0.tab m) (X.x s J) x.r r g cap) y:=by
 have hc:Ω m 234 [.p x.r.e] []=some (pI x.a,[]):=by
  obtain⟨m,rfl,-⟩:=fuel (show 1519+1<=m from hm);apply JY m x.r;rfl
 unfold Ä;rw[aa hc];simp only[aY,bW,aB];exact Yc s X J x r w hm h hd
def ĉ (hq:∀q,fA s.c x.a x.b=some q->q.params.length<1501)(h:(((fA s.c x.a x.b).map fun q=>(1+(q.params.length:Int),f)).bind fun p:Int×HJ=>vp p.1 p.2 X)=some y)(hd:∀(Y:Xt) J l,Wx s {Y with pc:=0}->(∀v∈l,Wk v)->l.length<=100->Y.st.length<1501->ko s g [] x l (f l Y) Y J m):EP s r (Ĉ (dC lay0.tab m) (X.x s J) x.r r g) y:=by
 cases hc:fA s.c x.a x.b with
 |none=>rw[hc]at h;cases h
 |some q=>
 have hql:=hq q hc;rw[hc]at h;unfold fA at hc;cases ht:dj s.c x.a with
 |none=>rw[ht]at hc;cases hc
 |some t=>
 rw[ht,Option.bind_some]at hc;have hp:=w.p;have e:({(X.x s J)with aP:=(ag .i64 ((X.x s J).aP+1))}:Xn)=Xt.x s {X with pc:=X.pc+1} J:=by
  rw[show ag .i64 ((X.x s J).aP+1)=X.pc+1 from fO (by show _<=X.pc+1;omega) (by show X.pc+1<_;omega)];rfl
 have h7:Ω m 161 [.p x.r.e,.box 0 0] (.box [.box 1 0]::(Xt.x s {X with pc:=X.pc+1} J).hp 1)=some (pI (1+(q.params.length:Int)),.box [.box 1 0]::(Xt.x s {X with pc:=X.pc+1} J).hp 1):=by
  obtain⟨m,rfl,hm'⟩:=fuel (show 1519+1<=m from hm);apply RW m (Xt.x s {X with pc:=X.pc+1} J) x.r;unfold HH;refine(aa (wU s {X with pc:=X.pc+1} J x ht hc (m:=m) (by omega)) _).trans ?_;simp only[c3,aR,aY,Cs,FQ,aB];refine(bM _ _).trans ?_;rw[show ag .i64 (1+((q.r.Params.length:Nat):Int))=1+(q.params.length:Int) by rw[show q.r.Params.length=q.params.length from lβ ..];exact fO (by omega) (by omega)];rfl
 unfold Ĉ;rw[e];have h7':=aa h7;show EP s r (dC lay0.tab m 161 [.p x.r.e,.box 0 0] (.box [.box 1 0]::(Xt.x s {X with pc:=X.pc+1} J).hp 1) _) y;rw[h7'];simp only[aY,bW];have h8:∀(a:List Ob) (K:R),cf a a K=K:=bM;rw[show ∀K,cf ([.box [.box 1 0]]++(Xt.x s {X with pc:=X.pc+1} J).hp 1) (.box [.box 1 0]::(Xt.x s {X with pc:=X.pc+1} J).hp 1) K=K from fun K=>bM _ K,Po,be]
 exact Yc s X J x r w hm h hd
end
def Rq {m:Nat}(s:Xs)(X:Xt)(J:LD)(w:Wx s X)(hq:∀x∈s.q.code,∀q,fA s.c x.a x.b=some q->q.params.length<1501)(hm:1521<=m)(h:pX s X=some y):EP s (Qv s.q) (Ω m 96 [.box 0 0,.map 1] (ñ (X.x s J) (Qv s.q))) y:=by
 replace hm:=fuel hm;obtain⟨m,rfl,hm⟩:=hm;unfold pX at h;cases hx:dj s.q.code X.pc with
 |none=>rw[hx]at h;cases h
 |some x=>
 rw[hx,Option.bind_some]at h;have hxm:=nJ hx;have hxl:=lr (w.x x hxm);suffices hs:EP s (Qv s.q) (yF (dC lay0.tab m) m (X.x s J) (Qv s.q)) y by
  obtain⟨J',hJ⟩:=hs;exact⟨J',RP m (X.x s J) (Qv s.q) _ hJ⟩
 unfold yF;show EP s (Qv s.q) (cL (bU (s.q.code.map Cd.e) X.pc) _) y;rw[aU,bf,hx,bG,Vf];show EP s (Qv s.q) (iL (az x.op 1) _ _) y;unfold Gb at h;refine cD h (fun h=>fj s X J x _ w hm h fun Y K l wY hl hll hst=>L2 s Y K x l hxl hst (by omega)) fun h=>?_
 refine cD h (fun h=>fj s X J x _ w hm h fun Y K l wY hl hll hst=>L3 s Y K x l (fun v hv=>lr (wY.ls v hv)) hst (by omega)) fun h=>?_
 refine cD h (fun h=>fj s X J x _ w hm h fun Y K l wY hl hll hst=>L4 s Y K x l (fun v hv=>lr (wY.fs v hv)) hst (by omega)) fun h=>?_
 refine cD h (fun h=>fj s X J x _ w hm h fun Y K l wY hl hll hst=>L5 s Y K x l hst (by omega)) fun h=>?_
 refine cD h (fun h=>fj s X J x _ w hm h fun Y K l wY hl hll hst=>L6 s Y K x l (fun v hv=>lr (hl v hv)) (by omega)) fun h=>?_
 refine cD h (fun h=>fj s X J x _ w hm h fun Y K l wY hl hll hst=>L7 s Y K x l (fun v hv=>lr (hl v hv)) (by omega)) fun h=>?_
 refine cD h (fun h=>fj s X J x _ w hm h fun Y K l wY hl hll hst=>wN s Y K x l [45] hst (by omega)) fun h=>?_
 refine cD h (fun h=>fj s X J x _ w hm h fun Y K l wY hl hll hst=>wN s Y K x l [33] hst (by omega)) fun h=>?_
 refine cD h (fun h=>fj s X J x _ w hm h fun Y K l wY hl hll hst=>bY s Y K x l [43] hl hst (by omega)) fun h=>?_
 refine cD h (fun h=>fj s X J x _ w hm h fun Y K l wY hl hll hst=>bY s Y K x l [43] hl hst (by omega)) fun h=>?_
 refine cD h (fun h=>fj s X J x _ w hm h fun Y K l wY hl hll hst=>bY s Y K x l [45] hl hst (by omega)) fun h=>?_
 refine cD h (fun h=>fj s X J x _ w hm h fun Y K l wY hl hll hst=>bY s Y K x l [42] hl hst (by omega)) fun h=>?_
 refine cD h (fun h=>fj s X J x _ w hm h fun Y K l wY hl hll hst=>bY s Y K x l [47] hl hst (by omega)) fun h=>?_
 refine cD h (fun h=>fj s X J x _ w hm h fun Y K l wY hl hll hst=>bY s Y K x l [37] hl hst (by omega)) fun h=>?_
 refine cD h (fun h=>fj s X J x _ w hm h fun Y K l wY hl hll hst=>bY s Y K x l [61,61] hl hst (by omega)) fun h=>?_
 refine cD h (fun h=>fj s X J x _ w hm h fun Y K l wY hl hll hst=>bY s Y K x l [33,61] hl hst (by omega)) fun h=>?_
 refine cD h (fun h=>fj s X J x _ w hm h fun Y K l wY hl hll hst=>bY s Y K x l [60] hl hst (by omega)) fun h=>?_
 refine cD h (fun h=>fj s X J x _ w hm h fun Y K l wY hl hll hst=>bY s Y K x l [60,61] hl hst (by omega)) fun h=>?_
 refine cD h (fun h=>fj s X J x _ w hm h fun Y K l wY hl hll hst=>bY s Y K x l [62] hl hst (by omega)) fun h=>?_
 refine cD h (fun h=>fj s X J x _ w hm h fun Y K l wY hl hll hst=>bY s Y K x l [62,61] hl hst (by omega)) fun h=>?_
 refine cD h (fun h=>fj s X J x _ w hm h fun Y K l wY hl hll hst=>eN s Y K x l [108,101,110] hl hll hst (by omega)) fun h=>?_
 refine cD h (fun h=>fj s X J x _ w hm h fun Y K l wY hl hll hst=>eN s Y K x l [97,116] hl hll hst (by omega)) fun h=>?_
 refine cD h (fun h=>fj s X J x _ w hm h fun Y K l wY hl hll hst=>eN s Y K x l [97,112,112,101,110,100] hl hll hst (by omega)) fun h=>?_
 refine cD h (fun h=>fj s X J x _ w hm h fun Y K l wY hl hll hst=>eN s Y K x l [115,101,116] hl hll hst (by omega)) fun h=>?_
 refine cD h (fun h=>fj s X J x _ w hm h fun Y K l wY hl hll hst=>eN s Y K x l [115,116,114] hl hll hst (by omega)) fun h=>?_
 refine cD h (fun h=>ZE s X J x _ w hm h fun Y K l wY hl hll hst=>eN s Y K x l [105,110,116,115] hl hll hst (by omega)) fun h=>?_
 refine cD h (fun h=>ZE s X J x _ w hm h fun Y K l wY hl hll hst=>eN s Y K x l [115,116,114,105,110,103,115] hl hll hst (by omega)) fun h=>?_
 refine cD h (fun h=>fj s X J x _ w hm h fun Y K l wY hl hll hst=>Hl s Y K x l (by omega)) fun h=>?_
 refine cD h (fun h=>fj s X J x _ w hm h fun Y K l wY hl hll hst=>Hl s Y K x l (by omega)) fun h=>?_
 refine cD h (fun h=>ĉ s X J x _ w hm (hq x hxm) h fun Y K l wY hl hll hst=>Q7 s Y K x l (fun v hv=>lr (hl v hv)) (by omega) (by omega)) fun h=>?_
 refine cD h (fun h=>fj s X J x _ w hm h fun Y K l wY hl hll hst=>Q8 s Y K x l (by omega)) fun h=>?_
 refine cD h (fun h=>fj s X J x _ w hm h fun Y K l wY hl hll hst=>Ja s Y K x l (fun v hv=>lr (hl v hv)) (by omega)) fun h=>?_
 refine cD h (fun h=>fj s X J x _ w hm h fun Y K l wY hl hll hst=>Q9 s Y K x l (by omega)) fun h=>?_
 refine cD h (fun h=>fj s X J x _ w hm h fun Y K l wY hl hll hst=>qm s Y K x l 1 (by have:=wY.e;simp only at this;omega) (by omega)) fun h=>?_
 refine cD h (fun h=>fj s X J x _ w hm h fun Y K l wY hl hll hst=>qm s Y K x l 2 (by have:=wY.e;simp only at this;omega) (by omega)) fun h=>?_
 refine cD h (fun h=>fj s X J x _ w hm h fun Y K l wY hl hll hst=>qm s Y K x l 3 (by have:=wY.e;simp only at this;omega) (by omega)) fun h=>?_
 cases h
end
def LU (n:Int):Da:= .fn 235 [.ptr (.agg [.int .i64 n])]
variable {m:Nat}
def eO (n:Int)(hm:1<=m):Ω m 159 [pI n] []=some (.p (LU n),[]):=by
 replace hm:=fuel hm;obtain⟨m,rfl,hm⟩:=hm;apply Nr m n;rfl
def LV (n:Int)(K:LD->R):cV 235 (LU n) K=K [.ptr (.agg [.int .i64 n])]:=rfl
def Mz (hm:2<=m):Ω m 147 [.p (.fn 148 [])] []=some (.p (.agg [LU 0,.fn 225 [.ptr (.agg [.fn 148 []])]]),[]):=by
 replace hm:=fuel hm;obtain⟨m,rfl,hm⟩:=hm;apply Nt m;unfold Bl;rw[aa (eO (m:=m) 0 hm)];rw[aY,LV,aR,aB,aB];rfl
def MA (hm:2<=m):Ω m 147 [.p (.fn 149 [])] []=some (.p (.agg [LU 0,.fn 225 [.ptr (.agg [.fn 149 []])]]),[]):=by
 replace hm:=fuel hm;obtain⟨m,rfl,hm⟩:=hm;apply Nu m;unfold Bm;rw[aa (eO (m:=m) 0 hm)];rw[aY,LV,aR,aB,aB];rfl
def MB (hm:2<=m):Ω m 147 [.p (.fn 150 [])] []=some (.p (.agg [LU 0,.fn 225 [.ptr (.agg [.fn 150 []])]]),[]):=by
 replace hm:=fuel hm;obtain⟨m,rfl,hm⟩:=hm;apply Nv m;unfold Bp;rw[aa (eO (m:=m) 0 hm)];rw[aY,LV,aR,aB,aB];rfl
def MC (hm:2<=m):Ω m 147 [.p (.fn 151 [])] []=some (.p (.agg [LU 0,.fn 225 [.ptr (.agg [.fn 151 []])]]),[]):=by
 replace hm:=fuel hm;obtain⟨m,rfl,hm⟩:=hm;apply Nw m;unfold Bq;rw[aa (eO (m:=m) 0 hm)];rw[aY,LV,aR,aB,aB];rfl
def MD (hm:2<=m):Ω m 152 [.p (.fn 153 [])] []=some (.p (.agg [LU 1,.fn 226 [.ptr (.agg [.fn 153 []])]]),[]):=by
 replace hm:=fuel hm;obtain⟨m,rfl,hm⟩:=hm;apply Nz m;unfold Bu;rw[aa (eO (m:=m) 1 hm)];rw[aY,LV,aR,aB,aB];rfl
def ME (hm:2<=m):Ω m 152 [.p (.fn 154 [])] []=some (.p (.agg [LU 1,.fn 226 [.ptr (.agg [.fn 154 []])]]),[]):=by
 replace hm:=fuel hm;obtain⟨m,rfl,hm⟩:=hm;apply NA m;unfold Bv;rw[aa (eO (m:=m) 1 hm)];rw[aY,LV,aR,aB,aB];rfl
def Jk (o:LN)(hm:2<=m):Ω m 155 [pS o] []=some (.p (.agg [LU 1,.fn 227 [.ptr (.agg [.str o])]]),[]):=by
 replace hm:=fuel hm;obtain⟨m,rfl,hm⟩:=hm;apply Ny m o;unfold Bs;rw[aa (eO (m:=m) 1 hm)];rw[aY,LV,aR,aB,aB];rfl
def yE (o:LN)(hm:2<=m):Ω m 156 [pS o] []=some (.p (.agg [LU 2,.fn 230 [.ptr (.agg [.str o])]]),[]):=by
 replace hm:=fuel hm;obtain⟨m,rfl,hm⟩:=hm;apply BX m o;unfold rj;rw[aa (eO (m:=m) 2 hm)];rw[aY,LV,aR,aB,aB];rfl
def re (o:LN)(n:Int)(hm:2<=m):Ω m 157 [pS o,pI n] []=some (.p (.agg [LU n,.fn 232 [.ptr (.agg [.str o])]]),[]):=by
 replace hm:=fuel hm;obtain⟨m,rfl,hm⟩:=hm;apply Ft m o n;unfold tt;rw[aa (eO (m:=m) n hm)];rw[aY,LV,aR,aB,aB];rfl
def Ji (q n:Int)(hm:2<=m):Ω m 167 [pI q,pI n] []=some (.p (.agg [LU n,.fn 236 [.ptr (.agg [.int .i64 q])]]),[]):=by
 replace hm:=fuel hm;obtain⟨m,rfl,hm⟩:=hm;apply Np m q n;unfold Bi;rw[aa (eO (m:=m) n hm)];rw[aY,LV,aR,aB,aB];rfl
def Đ (cs:LD)(K:LD->R):cV 232 (.fn 232 cs) K=K cs:=rfl
def Jj (o:LN)(hm:3<=m):Ω m 158 [pS o] []=some (.p (.agg [.fn 234 [],.fn 232 [.ptr (.agg [.str o])]]),[]):=by
 replace hm:=fuel hm;obtain⟨m,rfl,hm⟩:=hm;apply Ns m o;unfold Bk;rw[aa (re (m:=m) o 0 hm)];simp only[aY,OM,aR,aB,LV,Đ]
def MI (c:Xn)(hm:4<=m):Ω m 95 [.box 0 0] (c.hp 0)=some (.map 5,c.hp 0++[.tabO 6 (bif az c.mr 0 then 0 else 1),.box [.box 0 0]]):=by
 replace hm:=fuel hm;obtain⟨m,rfl,hm⟩:=hm;apply NJ m c;unfold BE kT;simp only[aa (Mz (m:=m) (by omega)),aa (MA (m:=m) (by omega)),aa (MB (m:=m) (by omega)),aa (MC (m:=m) (by omega)),aa (MD (m:=m) (by omega)),aa (ME (m:=m) (by omega)),aa (Jk (m:=m) _ (by omega)),aa (yE (m:=m) _ (by omega)),aa (re (m:=m) _ _ (by omega)),aa (Jj (m:=m) _ (by omega)),aa (Ji (m:=m) _ _ (by omega)),aa (eO (m:=m) _ (by omega)),aY,OM,aR,aB,LV,Đ];cases az c.mr 0<;>rfl
def mc0:Mc:=⟨0,0,0,[]⟩
structure HK where
 k:Int
 v:Va
 (tT tK mn:LN)
 ar:List Va
 er:Int
 mc:Mc
 fs:List Va
 es:List Ef
 fu:Int
def HK.r (g:HK):cd:=⟨g.k,g.v.k,g.v.n,g.v.s,g.v.I.map iE,g.v.L.map .str,g.tT,g.tK,g.mn,g.ar.map Va.e,g.er,g.mc.ty,g.mc.me,g.mc.pc,g.mc.ls.map Va.e,g.fs.map Va.e,g.es.map Ef.e,g.fu⟩
def HK.e (g:HK):Da:=g.r.e
def Ly:HK:=⟨0,v0,[],[],[],[],0,mc0,[],[],0⟩
def lq (er fu:Int)(fs:List Va):HK:=⟨3,v0,[],[],[],[],er,mc0,fs,[],fu⟩
def qX (a b:Int):Int:=bif aG b a then b else a
def Ie (s:Xs)(X:Xt):HK:=⟨X.ok,X.ov,X.tT,X.tK,X.mn,X.ar,0,bif az X.ok 2 then⟨s.ty,s.me,X.pc,X.ls⟩else mc0,X.fs,X.es,X.fu⟩
def jk (s:Xs)(fuel:Int)(start:List Va):Nat->Int->Xt->HK
 |0,_,_=>Ly
 |n+1,u,X=>bif X.done then Ie s X else bif aL u fuel then
   (match pX s X with
   |none=>Ly
   |some y=>bif az y.2 0 then jk s fuel start n (u+1) {y.1 with fu:=u}else lq y.2 (qX u fuel) start)
  else lq 17 (qX u fuel) start
structure Jo (s:Xs)(P:Xt->Prop):Prop where
 w:∀X,P X->Wx s X
 g:∀X,P X->X.done=false->∃y,pX s X=some y/\(y.2=0->∀u,P {y.1 with fu:=u})
 q:∀x∈s.q.code,∀q,fA s.c x.a x.b=some q->q.params.length<1501
def Q6 (G:R)(g:HK):Prop:=∃a b c d e,G=some (.p g.e,[a,b,c,d,e])
def QL:qK (.tabO 6 0) (.tabO 6 0)=true:=by kernel_rfl
def YS (c:Xn)(r:Int)(K:Xn->Int->R):ZX (c.bx 2:: .tabO 6 r::(c.rs++[.box [.box 0 0]])) K=K c r:=Vi 6 r (fun r=>K c r) QL
def YT (c:Xn)(r:Int)(K:Xn->Int->R):ZY (c.hp 0++[.tabO 6 r,.box [.box 0 0]]) K=K c r:=Vi 6 r (fun r=>K c r) QL
def Ey {m:Nat}(s:Xs)(P:Xt->Prop)(hI:Jo s P)(fuel:Int)(hf:fuel<1000000)(start:List Va)(hm:1521<=m)(k0 k1 k2:_->R)
  (h0:∀X J er u r,Q6 (k0 (Xt.x s X J,[],[],[],[],er,start.length,qX u fuel,r,start.map Va.e)) (lq er (qX u fuel) start))
  (h1:∀X J u r,Q6 (k1 (Xt.x s X J,[],[],[],[],start.length,qX u fuel,r,start.map Va.e)) (lq 17 (qX u fuel) start))
  (h2:∀X J u b r,Q6 (k2 (fuel,start.length,u,b,Xt.x s X J,[],[],[],[],r,start.map Va.e)) (Ie s X)):
  ∀(n q:Nat) (u:Int) (X:Xt) (J:LD),P X->1<=u->u<=fuel+1->fuel+2<=u+n->n<=q->Q6 (itL (lO (dC lay0.tab m) m k0 k1 k2) q (fuel,start.length,u,Xt.x s X J,[],[],[],[],Qv s.q,start.map Va.e)) (jk s fuel start n u X)
 |0,q,u,X,J,_,h1u,hn,hu,_=>by exfalso;omega
 |n+1,q+1,u,X,J,hP,h1u,hn,hu,hq=>by
  rw[bb];unfold jk;show Q6 (lO _ _ _ _ _ _ _) _;unfold lO;show Q6 (iL (!X.done) _ _) _;cases hd:X.done with
  |true=>exact h2 X J u _ _
  |false=>
   rw[Bool.not_false,be,cond_false];cases hl:aL u fuel with
   |false=>exact h1 X J u _
   |true=>
    rw[bj,lδ]at hl;obtain⟨y,hy,hPy⟩:=hI.g X hP hd;obtain⟨J',hJ⟩:=Rq s X J (hI.w X hP) hI.q hm hy;rw[be,cond_true,hy];simp only;have hJ2:=aa hJ;unfold ñ at hJ2;rw[hJ2,aY,bW,YS];cases he:az y.2 0 with
    |false=>exact h0 y.1 J' y.2 u _
    |true=>
     rw[Bool.not_true,bo,cond_true,fO (by omega) (by omega)];exact Ey s P hI fuel hf start hm k0 k1 k2 h0 h1 h2 n q (u+1) {y.1 with fu:=u} J' (hPy (eqI_t.1 he) u) (by omega) (by omega) (by omega) (by omega)
def VW (s:Xs)(P:Xt->Prop)(hI:Jo s P)(fuel:Int)(hf:0<=fuel/\fuel<1000000)(X:Xt)(J:LD)(hP:P X)(hl:X.fs.length<1501)(hm:1000010<=m):Q6 (Ω m 57 [.box 0 0,pI fuel] ((X.x s J).hp 0)) (jk s fuel X.fs (fuel.toNat+1) 1 X):=by
 obtain⟨m,rfl,hm⟩:=Go.Ab.fuel hm;suffices hs:Q6 (EX (dC lay0.tab m) m (X.x s J) fuel) (jk s fuel X.fs (fuel.toNat+1) 1 X) by
  obtain⟨a,b,c,d,e,h⟩:=hs;exact⟨a,b,c,d,e,Wc m (X.x s J) fuel _ h⟩
 unfold EX;rw[aa (MI (X.x s J) (m:=m) (by omega)),show ∀K,YP 5 (.map 5) K=K from fun _=>rfl,YT];have hv:∀v∈X.fs,Lg v:=fun v hv=>lr ((hI.w X hP).fs v hv)
 have hc:=aa (EU X.fs hl hv (m:=m) (by omega));rw[show(X.x s J).fn=X.fs.length from rfl,show(X.x s J).fs=X.fs.map Va.e from rfl,hc,eC];simp only[aR,eE,aB];have e:(Xn.mk (X.x s J).ct (X.x s J).mn (X.x s J).mp (X.x s J).mr (X.x s J).ml (X.x s J).mc (X.x s J).aT (X.x s J).aM (X.x s J).aP (X.x s J).ln (X.x s J).ky X.fs.length (X.x s J).sn (X.x s J).en (X.x s J).dn (X.x s J).oK (X.x s J).vK (X.x s J).vN (X.x s J).vS (X.x s J).vI (X.x s J).vL (X.x s J).tT (X.x s J).tK (X.x s J).me (X.x s J).ar (X.x s J).er (X.x s J).oT (X.x s J).oM (X.x s J).oP (X.x s J).ol (X.x s J).of (X.x s J).oe (X.x s J).fu (X.x s J).ls (X.fs.map Va.e) (X.x s J).st (X.x s J).es)=X.x s J:=rfl;have tkA:List.take X.fs.length (X.fs.map Va.e)=X.fs.map Va.e:=lκ (by rw[lβ];exact Nat.le_refl _);refine Ey s P hI fuel hf.2 X.fs (by omega) _ _ _ (fun Y K er u r=>?_) (fun Y K u r=>?_) (fun Y K u b r=>?_) (fuel.toNat+1) m 1 X J hP (by omega) (by omega) (by omega) (by omega)
 ·rw[List.drop_zero,tkA];exact⟨_,_,_,_,_,rfl⟩
 ·rw[List.drop_zero,tkA];exact⟨_,_,_,_,_,rfl⟩
 ·show Q6 (iL (az Y.ok 2) _ _) _;unfold Ie;have t1:List.take Y.ls.length (Y.ls.map Va.e)=Y.ls.map Va.e:=lκ (by rw[lβ];exact Nat.le_refl _);have t2:List.take Y.fs.length (Y.fs.map Va.e)=Y.fs.map Va.e:=lκ (by rw[lβ];exact Nat.le_refl _);have t3:List.take Y.es.length (Y.es.map Ef.e)=Y.es.map Ef.e:=lκ (by rw[lβ];exact Nat.le_refl _);simp only[List.drop_zero,show(Xt.x s Y K).ln=Y.ls.length from rfl,show(Xt.x s Y K).ls=Y.ls.map Va.e from rfl,show(Xt.x s Y K).fn=Y.fs.length from rfl,show(Xt.x s Y K).fs=Y.fs.map Va.e from rfl,show(Xt.x s Y K).en=Y.es.length from rfl,show(Xt.x s Y K).es=Y.es.map Ef.e from rfl,t1,t2,t3];cases az Y.ok 2 with
  |true=>exact⟨_,_,_,_,_,rfl⟩
  |false=>exact⟨_,_,_,_,_,rfl⟩
def kf (c:List Ct)(x:Mc)(key:LN)(fs:List Va)(rp:Va)(fuel:Int):Bool:=ot c x&&(!aG 32 key.length&&(QV c x.ty fs&&(!aG fuel 0&&(!aG 20000 fuel&&jj rp (R8 c x)))))
def X0 (x:Mc)(fs:List Va)(rp:Va):Xt:=⟨x.pc,x.ls,fs,bif az rp.k 0 then[]else[rp],[],false,0,v0,[],[],[],[],0⟩
def S0 (c:List Ct)(x:Mc)(key:LN):Xs:=⟨c,(la c x.ty x.me).getD m0,x.ty,x.me,key⟩
def Lt (c:List Ct)(x:Mc)(key:LN)(fs:List Va)(rp:Va)(fuel:Int):HK×Int:=bif kf c x key fs rp fuel then(jk (S0 c x key) fuel fs (fuel.toNat+1) 1 (X0 x fs rp),0)else(Ly,1)
def Un {c:List Ct}(hc:AJ c)(x:Mc)(key:LN)(fs:List Va)(rp:Va)(fuel:Int)(hfs:fs.length<1501)(hm:400020<=m)(k0:_->R):oD (dC lay0.tab m) m k0 (key,fs.map Va.e,fuel,(bif ot c x then R8 c x else 0),ot c x,de c,x.r,rp.r,[],[],[],[])=k0 (key,fs.map Va.e,fuel,!kf c x key fs rp fuel,de c,x.r,rp.r,[],[],[],[]):=by
 unfold oD kf;have h1:=aa (VV hc x.ty fs hfs (m:=m) (by omega));change ∀k,dC lay0.tab m _ [.p (.agg [.slice 3 (de c).Types]),pI x.r.Type_,_] [] k=_ at h1;have h2:=fun k=>aa (yD rp k (m:=m) (by omega))
 change ∀k K,dC lay0.tab m _ [.p rp.r.e,_] [] K=_ at h2
 simp only[h1,h2,aY,aJ,aB];cases ot c x<;>cases aG 32 (key.length:Int)<;>cases QV c x.ty fs<;>cases aG fuel 0<;>cases aG 20000 fuel<;>rfl
def VU {c:List Ct}(hc:AJ c)(x:Mc)(key:LN)(fs:List Va)(rp:Va)(fuel:Int)(hfs:fs.length<1501)(hll:x.ls.length<1501)(hlv:∀v∈x.ls,Lg v)(hfv:∀v∈fs,Lg v)(hrv:Lg rp)(hI:kf c x key fs rp fuel=true->∃P,Jo (S0 c x key) P/\P (X0 x fs rp))(hm:1000020<=m):Ω m 24 [.p (de c).e,.p x.e,pS key,pL 5 (fs.map Va.e),.p rp.e,pI fuel] []=some (.tup [.p (Lt c x key fs rp fuel).1.e,pI (Lt c x key fs rp fuel).2],[]):=by
 obtain⟨m,rfl,hm⟩:=Go.Ab.fuel hm;apply Wa m (de c) x.r key (fs.map Va.e) rp.r fuel;unfold MP Lt;refine(aa (Jf hc x (m:=m) (by omega)) _).trans ?_;simp only[c3,aR,aY,bW,aJ,aB];rw[Un hc x key fs rp fuel hfs (by omega)];cases hok:kf c x key fs rp fuel with
 |false=>rfl
 |true=>
  obtain⟨P,hP,hP0⟩:=hI hok;rw[Bool.not_true,bo,cond_true];refine(aa (rg hc x (m:=m) (by omega)) _).trans ?_;simp only[c3,aR,aY,FQ,aJ,aB];have hfl:0<=fuel/\fuel<1000000:=by
   unfold kf at hok;simp only[lγ,Bool.not_eq_true',bX,lζ]at hok;omega
  rw[aa (qq fs hfs hfv (m:=m) (by omega)),eC];simp only[aR,eE,aB];rw[show x.r.Locals=x.ls.map Va.e from rfl,aa (qq x.ls hll hlv (m:=m) (by omega)),eC];simp only[aR,eE,aB];obtain⟨a,b,c',d,e,hrun⟩:=VW (m:=m) (S0 c x key) P hP fuel hfl (X0 x fs rp) [] hP0 hfs (by omega);have hrun2:=aa hrun;show iL (!az rp.k 0) _ _=_;cases hk:az rp.k 0 with
  |true=>
   rw[Bool.not_true,bo];have ex:(X0 x fs rp).x (S0 c x key) []=(⟨c.map Ct.e,((la c x.ty x.me).getD m0).name,((la c x.ty x.me).getD m0).params.map iE,((la c x.ty x.me).getD m0).res,((la c x.ty x.me).getD m0).locals.map iE,((la c x.ty x.me).getD m0).code.map Cd.e,x.ty,x.me,x.pc,x.ls.length,key,fs.length,0,0,false,0,0,0,[],[],[],[],[],[],[],0,0,0,0,[],[],[],0,x.ls.map Va.e,fs.map Va.e,[],[]⟩:Xn):=by
    unfold X0;rw[hk];rfl
   rw[ex]at hrun2;refine(hrun2 _).trans ?_;simp only[aY,aR,aB];rfl
  |false=>
   rw[Bool.not_false,be];refine(aa (gQ rp hrv (m:=m) (by omega)) _).trans ?_;simp only[Va.cl,Va.ch,nM,aR,aY,bW,iU,eC,aB,eE];have hpu:=aa (AR (S0 c x key) ⟨x.pc,x.ls,fs,[],[],false,0,v0,[],[],[],[],0⟩ [] rp (by simp) (m:=m) (by omega));refine(hpu _).trans ?_;rw[c3,aB,Vj];have ex:(X0 x fs rp)=fo ⟨x.pc,x.ls,fs,[],[],false,0,v0,[],[],[],[],0⟩ rp:=by
    unfold X0 fo;rw[hk];rfl
   rw[ex]at hrun2;refine(hrun2 _).trans ?_;simp only[aY,aR,aB];rw[ex];rfl
def FvL:LI->List Va->Prop
 |[],[]=>True
 |k::r,v::l=>Fv k v/\FvL r l
 |_,_=>False
def FvL.len:∀{ks:LI} {l:List Va},FvL ks l->l.length=ks.length
 |[],[],_=>rfl
 |k::r,v::l,h=>by simp only[List.length_cons,FvL.len h.2]
def FvL.wk:∀{ks:LI} {l:List Va},FvL ks l->∀v∈l,Wk v
 |[],[],_,v,hv=>by cases hv
 |k::r,u::l,h,v,hv=>by
  rcases lω.1 hv with rfl|hv
  ·exact xQ h.1
  ·exact FvL.wk h.2 v hv
def FvL.app:∀{a b:LI} {x y:List Va},FvL a x->FvL b y->FvL (a++b) (x++y)
 |[],_,[],_,_,h=>h
 |_::_,_,_::_,_,h,g=>⟨h.1,FvL.app h.2 g⟩
def FvL.take:∀{ks:LI} {l:List Va} (n:Nat),FvL ks l->FvL (ks.take n) (l.take n)
 |[],[],n,_=>by rw[List.take_nil,List.take_nil];trivial
 |_::_,_::_,0,_=>trivial
 |_::_,_::_,n+1,h=>⟨h.1,FvL.take n h.2⟩
def FvL.drop:∀{ks:LI} {l:List Va} (n:Nat),FvL ks l->FvL (ks.drop n) (l.drop n)
 |[],[],n,_=>by rw[List.drop_nil,List.drop_nil];trivial
 |_::_,_::_,0,h=>h
 |_::_,_::_,n+1,h=>FvL.drop n h.2
def FvL.fit:∀{ks:LI} {l:List Va},FvL ks l->uw l ks=true
 |[],[],_=>rfl
 |k::r,v::l,h=>by show(jj v k&&uw l r)=true;rw[h.1.1,FvL.fit h.2];rfl
def EY (v:Va):Prop:=lB v.n/\∀x∈v.I,lB x
def FvL.of:∀{ks:LI} {l:List Va},uw l ks=true->(∀v∈l,EY v)->FvL ks l
 |[],[],_,_=>trivial
 |k::r,v::l,h,hv=>by
  have h:(jj v k&&uw l r)=true:=h;rw[lγ]at h;exact⟨⟨h.1,hv v lυ⟩,FvL.of h.2 fun u hu=>hv u (mα _ hu)⟩
 |[],_::_,h,_=>by cases h
 |_::_,[],h,_=>by cases h
def FvL.get:∀{ks:LI} {l:List Va} {i:Nat} {k:Int},FvL ks l->ks[i]?=some k->∃v,l[i]?=some v/\Fv k v
 |_::_,v::_,0,_,h,e=>by cases e;exact⟨v,rfl,h.1⟩
 |_::_,_::_,i+1,k,h,e=>FvL.get (i:=i) (k:=k) h.2 e
 |[],[],i,k,_,e=>by simp at e
def FvL.set:∀{ks:LI} {l:List Va} {i:Nat} {k:Int} {v:Va},FvL ks l->ks[i]?=some k->Fv k v->FvL ks (l.set i v)
 |_::_,_::_,0,_,_,h,e,hv=>by cases e;exact⟨hv,h.2⟩
 |_::_,_::_,i+1,_,_,h,e,hv=>⟨h.1,FvL.set h.2 e hv⟩
 |[],[],i,k,v,_,e,_=>by simp at e
def FvL.same:∀{k:Int} {n:Nat} {l:List Va},FvL (List.replicate n k) l->∀v∈l,Fv k v
 |k,0,[],_,v,hv=>by cases hv
 |k,n+1,u::l,h,v,hv=>by
  rcases lω.1 hv with rfl|hv
  ·exact h.1
  ·exact FvL.same (n:=n) h.2 v hv
structure jF (ks:LI)(set:Nat)(ls:List Va):Prop where
 n:ls.length=ks.length
 a:∀(i:Nat) (k:Int) (v:Va),ks[i]?=some k->ls[i]?=some v->Fv k v\/(v=v0/\set.testBit i=false)
variable {ks:LI}
def jF.sub {a b:Nat}{ls:List Va}(h:jF ks b ls)(hs:a &&& b=a):jF ks a ls:=⟨h.n,fun i k v hk hv=>by
 rcases h.a i k v hk hv with h|⟨h,hb⟩
 ·exact .inl h
 ·refine .inr ⟨h,?_⟩;have:=congrArg (fun n=>Nat.testBit n i) hs;simp only[Nat.testBit_and,hb,Bool.and_false]at this;exact this.symm⟩
def jF.wk {a:Nat}{ls:List Va}(h:jF ks a ls):∀v∈ls,Wk v:=fun v hv=>by
 obtain⟨i,hi,rfl⟩:=qι hv;have hk:i<ks.length:=by rw[<-h.n];exact hi
 rcases h.a i ks[i] ls[i] (lε hk) (lε hi)with h|⟨h,-⟩
 ·exact xQ h
 ·rw[h];exact VN
def jF.set {ks:LI}{a:Nat}{ls:List Va}{i:Nat}{k:Int}{v:Va}(h:jF ks a ls)(hk:ks[i]?=some k)(hv:Fv k v):jF ks (a ||| 2 ^ i) (ls.set i v):=⟨by rw[List.length_set];exact h.n,fun j q u hq hu=>by
 by_cases hj:j=i
 ·subst hj;rw[hk]at hq;cases hq;have hl:j<ls.length:=by rw[h.n];exact(List.getElem?_eq_some_iff.1 hk).1
  rw[mψ hl]at hu;cases hu;exact .inl hv
 ·rw[mρ (fun e=>hj e.symm)]at hu;rcases h.a j q u hq hu with h|⟨h,hb⟩
  ·exact .inl h
  ·refine .inr ⟨h,?_⟩;rw[Nat.testBit_or,hb,Nat.testBit_two_pow_of_ne (fun e=>hj e.symm)];rfl⟩
structure VX (e:Ef):Prop where
 k:1<=e.k/\e.k<=3
 n:1<=e.n.length/\e.n.length<=32
 r:e.k=2->1<=e.a/\1<=e.b
 c:e.k=3->e.a=0/\e.b=0
structure AS (l:List Ef):Prop where
 n:l.length<=16
 a:∀e∈l,VX e
def UX (s:Xs)(S:List SV)(X:Xt):Prop:=(X.ok=1/\Fv s.q.res X.ov/\X.ar=[])\/(X.ok=2/\X.ov=v0/\∃(pc:Nat) (x:Cd) (v:SV) (t:Ct) (q:Cm),X.pc=((pc+1:Nat):Int)/\s.q.code[pc]?=some x/\x.op=30/\S[pc+1]?=some v/\jF s.q.locals v.set X.ls/\dj s.c x.a=some t/\dj t.methods x.b=some q/\X.tT=t.name/\X.mn=q.name/\X.tK.length<=32/\FvL q.params X.ar)
structure Gd (s:Xs)(t:Ct)(S:List SV)(X:Xt):Prop where
 fs:FvL (t.fields.map Fe.kind) X.fs
 es:AS X.es
 ls:∀v∈X.ls,Wk v
 st:(∀v∈X.st,Wk v)/\X.st.length<=40
 pc:0<=X.pc/\X.pc<=1501
 lv:X.done=false->∃(pc:Nat) (v:SV),X.pc=(pc:Int)/\S[pc]?=some v/\FvL v.st X.st/\jF s.q.locals v.set X.ls
 dn:X.done=true->UX s S X
def Gd.fu {s t S X}(h:Gd s t S X)(u:Int):Gd s t S {X with fu:=u}:=⟨h.fs,h.es,h.ls,h.st,h.pc,h.lv,h.dn⟩
structure UT (s:Xs)(t:Ct)(S:List SV):Prop where
 f:HI s.c t s.q
 x:Í s.c t s.q S
 v:∀y∈s.q.code,EY y.v
def HS {c t m x}{K K':LI}(h:tZ c t m x K=some (K',true)):∃l e,cN c t m x (c9 K)=some l/\e∈l/\e.1.length<=K.length/\K.drop (K.length - e.1.length)=e.1/\K'=K.take (K.length - e.1.length)++e.2/\(x.op=30\/x.op=32->K.take (K.length - e.1.length)=[])/\(K=[]->x.op≠15/\x.op≠16/\x.op≠31):=by
 unfold tZ at h;cases hb:K.isEmpty&&(az x.op 15||(az x.op 16||az x.op 31))with
 |true=>rw[hb]at h;cases h
 |false=>
  rw[hb,cond_false]at h;cases he:cN c t m x (c9 K)with
  |none=>rw[he]at h;cases h
  |some l=>
   rw[he]at h;have h:=Option.some.inj h;have last:K=[]->x.op≠15/\x.op≠16/\x.op≠31:=fun e=>by
    subst e;simp only[List.isEmpty_nil,Bool.true_and,qε,cE,lζ]at hb;exact⟨hb.1,hb.2.1,hb.2.2⟩
   have go:∀l:List Ek,wd x.op K l=(K',true)->∃e,e∈l/\e.1.length<=K.length/\K.drop (K.length - e.1.length)=e.1/\K'=K.take (K.length - e.1.length)++e.2/\(x.op=30\/x.op=32->K.take (K.length - e.1.length)=[]):=by
    intro l;induction l with
    |nil=>intro h;cases h
    |cons e r ih=>
     intro h;unfold wd at h;revert h;by_cases h1:K.length<e.1.length
     ·rw[lν h1];intro h;obtain⟨e',h1,h2⟩:=ih h;exact⟨e',mα _ h1,h2⟩
     ·rw[mθ h1];by_cases h2:K.drop (K.length - e.1.length)=e.1
      ·rw[lν h2];cases h3:decide (0<K.length - e.1.length)&&(az x.op 32||az x.op 30)with
       |true=>intro h;cases h
       |false=>
        intro h;simp only[cond_true,cond_false,lμ,lδ]at h;refine⟨e,lυ,by omega,h2,h.1.symm,fun ho=>?_⟩
        rw[Bool.and_eq_false_iff,lζ,qε,cE,cE,lζ,lζ]at h3;have:K.length - e.1.length=0:=by omega
        rw[this,List.take_zero]
      ·rw[mθ h2];intro h;obtain⟨e',h1,h2⟩:=ih h;exact⟨e',mα _ h1,h2⟩
   obtain⟨e,h1,h2,h3,h4,h5⟩:=go l h;exact⟨l,e,rfl,h1,h2,h3,h4,h5,last⟩
variable {pc:Nat}
def QI {m:Cm}{x:Cd}(h:(eM m pc x).2=true)(h1:x.op≠32)(h2:x.op≠33)(h3:x.op≠28)(h4:x.op≠29):(eM m pc x).1=[((pc+1:Nat):Int)]:=by
 have e:∀{k:Int},x.op≠k->az x.op k=false:=fun h=>by rw[cE];exact mθ h
 unfold eM at h ⊢
 rw[e h1,e h2,e h3,e h4]at h ⊢
 revert h
 cases decide (pc+1=m.code.length)with
 |true=>intro h;cases h
 |false=>intro _;rfl
section
variable {a:Int}
def uA {l:List Va}(h:FvL [a] l):∃x,l=[x]/\Fv a x:=by
 match l,h with
 |[x],h=>exact⟨x,rfl,h.1⟩
def jL {b:Int}{l:List Va}(h:FvL [a,b] l):∃x y,l=[x,y]/\Fv a x/\Fv b y:=by
 match l,h with
 |[x,y],h=>exact⟨x,y,rfl,h.1,h.2.1⟩
def Xh {b c:Int}{l:List Va}(h:FvL [a,b,c] l):∃x y z,l=[x,y,z]/\Fv a x/\Fv b y/\Fv c z:=by
 match l,h with
 |[x,y,z],h=>exact⟨x,y,z,rfl,h.1,h.2.1,h.2.2.1⟩
structure gb (s:Xs)(t:Ct)(S:List SV)(X:Xt)(pc:Nat)(x:Cd)(v:SV)(e:Ek)(st':LI)(l:List Va)(Y:Xt):Prop where
 hx:UT s t S
 g:Gd s t S X
 hc:s.q.code[pc]?=some x
 hv:S[pc]?=some v
 hpc:X.pc=(pc:Int)
 hls:jF s.q.locals v.set X.ls
 hin:gX s.c t s.q x=true
 s2:(eM s.q pc x).2=true
 to:∀k∈(eM s.q pc x).1,Has S k.toNat st' (lA x v.set)
 st:∃K0,st'=K0++e.2/\FvL K0 Y.st/\(x.op=30\/x.op=32->Y.st=[]/\K0=[])
 l:FvL e.1 l
 le:st'.length<=40
 y:Y={X with pc:=X.pc+1,st:=Y.st}
 d:X.done=false
def gb.nxt {s t S X pc x v e st' l Y}(h:gb s t S X pc x v e st' l Y){Z:Xt}(h1:Z.pc∈(eM s.q pc x).1)(h2:FvL st' Z.st)(h3:jF s.q.locals (lA x v.set) Z.ls)(h4:FvL (t.fields.map Fe.kind) Z.fs)(h5:AS Z.es)(h6:Z.done=false):Gd s t S Z:=by
 have hpl:pc<s.q.code.length:=(List.getElem?_eq_some_iff.1 h.hc).1;obtain⟨u,hu,-,hus,hub⟩:=h.to _ h1;obtain⟨r1,r2⟩:=(QH h.hin hpl h.s2).1 _ h1;have hcl:=h.hx.f.z.c;have hl:=h.le;refine⟨h4,h5,h3.wk,⟨h2.wk,by rw[h2.len];exact hl⟩,⟨r1,by omega⟩,fun _=>⟨Z.pc.toNat,u,(mσ r1).symm,hu,hus▸h2,h3.sub hub⟩,fun hd=>by rw[h6]at hd;cases hd⟩
def oo {x:Cd}{set:Nat}(h:x.op≠3):lA x set=set:=by
 unfold lA;rw[show az x.op 3=false by rw[cE];exact mθ h];rfl
section
variable {s:Xs} {t:Ct} {S:List SV} {X:Xt} {pc:Nat} {x:Cd} {v:SV} {e:Ek} {st':LI} {l:List Va} {Y:Xt} (h:gb s t S X pc x v e st' l Y)
include h
def gb.ls:Y.ls=X.ls:=by rw[h.y]
def gb.fs:Y.fs=X.fs:=by rw[h.y]
def gb.es:Y.es=X.es:=by rw[h.y]
def gb.dn:Y.done=false:=by rw[h.y];exact h.d
def gb.pcN:Y.pc=((pc+1:Nat):Int):=by rw[h.y];show X.pc+1=_;rw[h.hpc];omega
def gb.nx (h1:x.op≠32)(h2:x.op≠33)(h3:x.op≠28)(h4:x.op≠29):Y.pc∈(eM s.q pc x).1:=by
 rw[QI h.s2 h1 h2 h3 h4,h.pcN];exact List.mem_singleton.2 rfl
def gb.psh {k:Int}{w:Va}(he:e.2=[k])(hw:Fv k w)(h0:x.op≠3)(h1:x.op≠32)(h2:x.op≠33)(h3:x.op≠28)(h4:x.op≠29):Gd s t S (fo Y w):=by
 obtain⟨K0,k1,k2,-⟩:=h.st;refine h.nxt (Z:=fo Y w) (h.nx h1 h2 h3 h4) ?_ ?_ ?_ ?_ h.dn
 ·rw[k1,he];exact k2.app ⟨hw,trivial⟩
 ·rw[oo h0];show jF _ _ Y.ls;rw[h.ls];exact h.hls
 ·show FvL _ Y.fs;rw[h.fs];exact h.g.fs
 ·show AS Y.es;rw[h.es];exact h.g.es
def gb.pshR {k:Int}{r:Va×Int}(he:e.2=[k])(hw:VY k r)(h0:x.op≠3)(h1:x.op≠32)(h2:x.op≠33)(h3:x.op≠28)(h4:x.op≠29):(eF r Y).2=0->Gd s t S (eF r Y).1:=fun hz=>by
 have hz:r.2=0:=hz;unfold eF;rw[eqI_t.2 hz];exact h.psh he (hw hz) h0 h1 h2 h3 h4
def gb.pop (he:e.2=[]){Z:Xt}(hp:Z.pc∈(eM s.q pc x).1)(hs:Z.st=Y.st)(hl:jF s.q.locals (lA x v.set) Z.ls)(hf:FvL (t.fields.map Fe.kind) Z.fs)(hes:AS Z.es)(hd:Z.done=false):Gd s t S Z:=by
 obtain⟨K0,k1,k2,-⟩:=h.st;refine h.nxt hp ?_ hl hf hes hd;rw[k1,he,mκ,hs];exact k2
def gb.ask (he:e.2=[])(h0:x.op≠3)(h1:x.op≠32)(h2:x.op≠33)(h3:x.op≠28)(h4:x.op≠29){r:Ef×Int}(hr:r.2=0->VX r.1/\Y.es.length<16):(sk r Y).2=0->Gd s t S (sk r Y).1:=fun hz=>by
 have hz:r.2=0:=hz;obtain⟨g1,g2⟩:=hr hz;unfold sk;rw[eqI_t.2 hz];refine h.pop he (Z:={Y with es:=Y.es++[r.1]}) (h.nx h1 h2 h3 h4) rfl ?_ ?_ ⟨?_,fun y hy=>?_⟩ h.dn
 ·rw[oo h0];show jF _ _ Y.ls;rw[h.ls];exact h.hls
 ·show FvL _ Y.fs;rw[h.fs];exact h.g.fs
 ·show(Y.es++[r.1]).length<=16;rw[mη];simp only[List.length_singleton];omega
 ·rcases qδ.1 hy with hy|hy
  ·rw[h.es]at hy;exact h.g.es.a y hy
  ·rw[List.mem_singleton.1 hy];exact g1
end
def eA (s:Xs)(t:Ct)(S:List SV)(x:Cd)(e:Ek)(l:List Va)(Y:Xt):Prop:=∃f,Gb s x=some ((e.1.length:Int),f)/\∃y,f l Y=some y/\(y.2=0->Gd s t S y.1)
def aX {n k:Int}(h:decide (n=k)=false):n≠k:=of_decide_eq_false h
variable {st':LI} {Y:Xt} {vv:Va}
def Xk {s:Xs}{t:Ct}{S:List SV}{X:Xt}{v:SV}{e:Ek}{l:List Va}{b:Int}(h:gb s t S X pc ⟨1,a,b,vv⟩ v e st' l Y)(L:List Ek)(he:cN s.c t s.q ⟨1,a,b,vv⟩ (c9 v.st)=some L)(hel:e∈L):eA s t S ⟨1,a,b,vv⟩ e l Y:=by
 obtain rfl:=Option.some.inj he;obtain rfl:=List.mem_singleton.1 hel;have hi:=jO h.hin;have hi:(ra vv&&!az vv.k 0)=true:=hi;rw[lγ]at hi;have hw:Fv vv.k vv:=⟨by unfold jj;rw[hi.1,eqI_t.2 rfl];rfl,h.hx.v _ (mδ h.hc)⟩
 exact⟨_,rfl,_,rfl,fun _=>h.psh rfl hw (aX rfl) (aX rfl) (aX rfl) (aX rfl) (aX rfl)⟩
def Xl {s:Xs}{t:Ct}{S:List SV}{X:Xt}{v:SV}{e:Ek}{l:List Va}{b:Int}(h:gb s t S X pc ⟨2,a,b,vv⟩ v e st' l Y)(L:List Ek)(he:cN s.c t s.q ⟨2,a,b,vv⟩ (c9 v.st)=some L)(hel:e∈L):eA s t S ⟨2,a,b,vv⟩ e l Y:=by
 have he:(dj s.q.locals a).map (fun k=>[(([],[k]):Ek)])=some L:=he;cases hk:dj s.q.locals a with
 |none=>rw[hk]at he;cases he
 |some k=>
 rw[hk]at he;obtain rfl:=Option.some.inj he;obtain rfl:=List.mem_singleton.1 hel;obtain⟨g1,g2,g3⟩:=jH hk;have hlen:=h.hls.n;obtain⟨w,hw,hwm⟩:=iR (l:=X.ls) (x:=a) ⟨g1,by omega⟩
 obtain⟨-,-,hw2⟩:=jH hw;have hbit:v.set.testBit a.toNat=true:=h.hx.x.l pc _ v h.hc h.hv rfl;have hfv:Fv k w:=by
  rcases h.hls.a a.toNat k w g3 hw2 with h|⟨-,h⟩
  ·exact h
  ·rw[hbit]at h;cases h
 refine⟨_,rfl,(fo Y w,0),?_,fun _=>h.psh rfl hfv (aX rfl) (aX rfl) (aX rfl) (aX rfl) (aX rfl)⟩
 show(dj Y.ls a).map _=_;rw[h.ls,hw];rfl
def Xo {s:Xs}{t:Ct}{S:List SV}{X:Xt}{v:SV}{e:Ek}{l:List Va}{b:Int}(h:gb s t S X pc ⟨4,a,b,vv⟩ v e st' l Y)(L:List Ek)(he:cN s.c t s.q ⟨4,a,b,vv⟩ (c9 v.st)=some L)(hel:e∈L):eA s t S ⟨4,a,b,vv⟩ e l Y:=by
 have he:(dj t.fields a).map (fun f=>[(([],[f.kind]):Ek)])=some L:=he;cases hk:dj t.fields a with
 |none=>rw[hk]at he;cases he
 |some k=>
 rw[hk]at he;obtain rfl:=Option.some.inj he;obtain rfl:=List.mem_singleton.1 hel;obtain⟨g1,g2,g3⟩:=jH hk;obtain⟨w,hw,hfv⟩:=h.g.fs.get (i:=a.toNat) (k:=k.kind) (by rw[lξ,g3];rfl);refine⟨_,rfl,(fo Y w,0),?_,fun _=>h.psh rfl hfv (aX rfl) (aX rfl) (aX rfl) (aX rfl) (aX rfl)⟩
 show(dj Y.fs a).map _=_;rw[h.fs];unfold dj;rw[if_pos g1,hw];rfl
def Xq {s:Xs}{t:Ct}{S:List SV}{X:Xt}{v:SV}{e:Ek}{l:List Va}{b:Int}(h:gb s t S X pc ⟨6,a,b,vv⟩ v e st' l Y)(L:List Ek)(he:cN s.c t s.q ⟨6,a,b,vv⟩ (c9 v.st)=some L)(hel:e∈L)(hky:s.ky.length<=32):eA s t S ⟨6,a,b,vv⟩ e l Y:=by
 obtain rfl:=Option.some.inj he;obtain rfl:=List.mem_singleton.1 hel;exact⟨_,rfl,_,rfl,fun _=>h.psh rfl (fv3.2 ⟨s.ky,rfl,by omega⟩) (aX rfl) (aX rfl) (aX rfl) (aX rfl) (aX rfl)⟩
def Xm {s:Xs}{t:Ct}{S:List SV}{X:Xt}{v:SV}{e:Ek}{l:List Va}{b:Int}(h:gb s t S X pc ⟨3,a,b,vv⟩ v e st' l Y)(L:List Ek)(he:cN s.c t s.q ⟨3,a,b,vv⟩ (c9 v.st)=some L)(hel:e∈L):eA s t S ⟨3,a,b,vv⟩ e l Y:=by
 have he:(dj s.q.locals a).map (fun k=>[(([k],[]):Ek)])=some L:=he;cases hk:dj s.q.locals a with
 |none=>rw[hk]at he;cases he
 |some k=>
 rw[hk]at he;obtain rfl:=Option.some.inj he;obtain rfl:=List.mem_singleton.1 hel;obtain⟨g1,g2,g3⟩:=jH hk;obtain⟨w,rfl,hw⟩:=uA h.l;have hlen:=h.hls.n;obtain⟨z,hz,-⟩:=iR (l:=X.ls) (x:=a) ⟨g1,by omega⟩
 refine⟨_,rfl,({Y with ls:=Y.ls.set a.toNat w},0),?_,fun _=>h.pop rfl (Z:={Y with ls:=Y.ls.set a.toNat w}) (h.nx (aX rfl) (aX rfl) (aX rfl) (aX rfl)) rfl ?_ ?_ ?_ h.dn⟩
 ·show(some w).bind _=_;rw[Option.bind_some,h.ls,hz];rfl
 ·show jF _ (v.set ||| 2 ^ a.toNat) (Y.ls.set a.toNat w);rw[h.ls];exact h.hls.set g3 hw
 ·show FvL _ Y.fs;rw[h.fs];exact h.g.fs
 ·show AS Y.es;rw[h.es];exact h.g.es
def Xp {s:Xs}{t:Ct}{S:List SV}{X:Xt}{v:SV}{e:Ek}{l:List Va}{b:Int}(h:gb s t S X pc ⟨5,a,b,vv⟩ v e st' l Y)(L:List Ek)(he:cN s.c t s.q ⟨5,a,b,vv⟩ (c9 v.st)=some L)(hel:e∈L):eA s t S ⟨5,a,b,vv⟩ e l Y:=by
 have he:(dj t.fields a).map (fun f=>[(([f.kind],[]):Ek)])=some L:=he;cases hk:dj t.fields a with
 |none=>rw[hk]at he;cases he
 |some k=>
 rw[hk]at he;obtain rfl:=Option.some.inj he;obtain rfl:=List.mem_singleton.1 hel;obtain⟨g1,g2,g3⟩:=jH hk;obtain⟨w,rfl,hw⟩:=uA h.l;obtain⟨z,hz,-⟩:=h.g.fs.get (i:=a.toNat) (k:=k.kind) (by rw[lξ,g3];rfl);refine⟨_,rfl,({Y with fs:=Y.fs.set a.toNat w},0),?_,fun _=>h.pop rfl (Z:={Y with fs:=Y.fs.set a.toNat w}) (h.nx (aX rfl) (aX rfl) (aX rfl) (aX rfl)) rfl ?_ ?_ ?_ h.dn⟩
 ·show(some w).bind _=_;rw[Option.bind_some,h.fs];unfold dj;rw[if_pos g1,hz];rfl
 ·rw[oo (aX rfl)];show jF _ _ Y.ls;rw[h.ls];exact h.hls
 ·show FvL _ (Y.fs.set a.toNat w);rw[h.fs];exact h.g.fs.set (by rw[lξ,g3];rfl) hw
 ·show AS Y.es;rw[h.es];exact h.g.es
def Xr {s:Xs}{t:Ct}{S:List SV}{X:Xt}{v:SV}{e:Ek}{l:List Va}{b:Int}(h:gb s t S X pc ⟨7,a,b,vv⟩ v e st' l Y)(L:List Ek)(he:cN s.c t s.q ⟨7,a,b,vv⟩ (c9 v.st)=some L)(hel:e∈L):eA s t S ⟨7,a,b,vv⟩ e l Y:=by
 obtain rfl:=Option.some.inj he;obtain rfl:=List.mem_singleton.1 hel;obtain⟨w,rfl,hw⟩:=uA h.l;exact⟨_,rfl,_,rfl,h.pshR rfl Yh (aX rfl) (aX rfl) (aX rfl) (aX rfl) (aX rfl)⟩
def Xu {s:Xs}{t:Ct}{S:List SV}{X:Xt}{v:SV}{e:Ek}{l:List Va}{b:Int}(h:gb s t S X pc ⟨8,a,b,vv⟩ v e st' l Y)(L:List Ek)(he:cN s.c t s.q ⟨8,a,b,vv⟩ (c9 v.st)=some L)(hel:e∈L):eA s t S ⟨8,a,b,vv⟩ e l Y:=by
 obtain rfl:=Option.some.inj he;obtain rfl:=List.mem_singleton.1 hel;obtain⟨w,rfl,hw⟩:=uA h.l;exact⟨_,rfl,_,rfl,h.pshR rfl Yi (aX rfl) (aX rfl) (aX rfl) (aX rfl) (aX rfl)⟩
def Xv {s:Xs}{t:Ct}{S:List SV}{X:Xt}{v:SV}{e:Ek}{l:List Va}{b:Int}(h:gb s t S X pc ⟨9,a,b,vv⟩ v e st' l Y)(L:List Ek)(he:cN s.c t s.q ⟨9,a,b,vv⟩ (c9 v.st)=some L)(hel:e∈L):eA s t S ⟨9,a,b,vv⟩ e l Y:=by
 obtain rfl:=Option.some.inj he;obtain rfl:=List.mem_singleton.1 hel;obtain⟨w,z,rfl,hw,hz⟩:=jL h.l;exact⟨_,rfl,_,rfl,h.pshR rfl (Ci _ (.inl rfl) hw) (aX rfl) (aX rfl) (aX rfl) (aX rfl) (aX rfl)⟩
def Tw {s:Xs}{t:Ct}{S:List SV}{X:Xt}{v:SV}{e:Ek}{l:List Va}{b:Int}(h:gb s t S X pc ⟨11,a,b,vv⟩ v e st' l Y)(L:List Ek)(he:cN s.c t s.q ⟨11,a,b,vv⟩ (c9 v.st)=some L)(hel:e∈L):eA s t S ⟨11,a,b,vv⟩ e l Y:=by
 obtain rfl:=Option.some.inj he;obtain rfl:=List.mem_singleton.1 hel;obtain⟨w,z,rfl,hw,hz⟩:=jL h.l;exact⟨_,rfl,_,rfl,h.pshR rfl (Ci _ (.inr (.inl rfl)) hw) (aX rfl) (aX rfl) (aX rfl) (aX rfl) (aX rfl)⟩
def Tx {s:Xs}{t:Ct}{S:List SV}{X:Xt}{v:SV}{e:Ek}{l:List Va}{b:Int}(h:gb s t S X pc ⟨12,a,b,vv⟩ v e st' l Y)(L:List Ek)(he:cN s.c t s.q ⟨12,a,b,vv⟩ (c9 v.st)=some L)(hel:e∈L):eA s t S ⟨12,a,b,vv⟩ e l Y:=by
 obtain rfl:=Option.some.inj he;obtain rfl:=List.mem_singleton.1 hel;obtain⟨w,z,rfl,hw,hz⟩:=jL h.l;exact⟨_,rfl,_,rfl,h.pshR rfl (Ci _ (.inr (.inr (.inl rfl))) hw) (aX rfl) (aX rfl) (aX rfl) (aX rfl) (aX rfl)⟩
def Tz {s:Xs}{t:Ct}{S:List SV}{X:Xt}{v:SV}{e:Ek}{l:List Va}{b:Int}(h:gb s t S X pc ⟨13,a,b,vv⟩ v e st' l Y)(L:List Ek)(he:cN s.c t s.q ⟨13,a,b,vv⟩ (c9 v.st)=some L)(hel:e∈L):eA s t S ⟨13,a,b,vv⟩ e l Y:=by
 obtain rfl:=Option.some.inj he;obtain rfl:=List.mem_singleton.1 hel;obtain⟨w,z,rfl,hw,hz⟩:=jL h.l;exact⟨_,rfl,_,rfl,h.pshR rfl (Ci _ (.inr (.inr (.inr (.inl rfl)))) hw) (aX rfl) (aX rfl) (aX rfl) (aX rfl) (aX rfl)⟩
def TA {s:Xs}{t:Ct}{S:List SV}{X:Xt}{v:SV}{e:Ek}{l:List Va}{b:Int}(h:gb s t S X pc ⟨14,a,b,vv⟩ v e st' l Y)(L:List Ek)(he:cN s.c t s.q ⟨14,a,b,vv⟩ (c9 v.st)=some L)(hel:e∈L):eA s t S ⟨14,a,b,vv⟩ e l Y:=by
 obtain rfl:=Option.some.inj he;obtain rfl:=List.mem_singleton.1 hel;obtain⟨w,z,rfl,hw,hz⟩:=jL h.l;exact⟨_,rfl,_,rfl,h.pshR rfl (Ci _ (.inr (.inr (.inr (.inr rfl)))) hw) (aX rfl) (aX rfl) (aX rfl) (aX rfl) (aX rfl)⟩
def Tv {s:Xs}{t:Ct}{S:List SV}{X:Xt}{v:SV}{e:Ek}{l:List Va}{b:Int}(h:gb s t S X pc ⟨10,a,b,vv⟩ v e st' l Y)(L:List Ek)(he:cN s.c t s.q ⟨10,a,b,vv⟩ (c9 v.st)=some L)(hel:e∈L):eA s t S ⟨10,a,b,vv⟩ e l Y:=by
 obtain rfl:=Option.some.inj he;obtain rfl:=List.mem_singleton.1 hel;obtain⟨w,z,rfl,hw,hz⟩:=jL h.l;exact⟨_,rfl,_,rfl,h.pshR rfl (Wu hw hz) (aX rfl) (aX rfl) (aX rfl) (aX rfl) (aX rfl)⟩
def TB {s:Xs}{t:Ct}{S:List SV}{X:Xt}{v:SV}{e:Ek}{l:List Va}{b:Int}(h:gb s t S X pc ⟨15,a,b,vv⟩ v e st' l Y)(L:List Ek)(he:cN s.c t s.q ⟨15,a,b,vv⟩ (c9 v.st)=some L)(hel:e∈L):eA s t S ⟨15,a,b,vv⟩ e l Y:=by
 obtain rfl:=Option.some.inj he;obtain rfl:=List.mem_singleton.1 hel;obtain⟨w,z,rfl,hw,hz⟩:=jL h.l;exact⟨_,rfl,_,rfl,h.pshR rfl (jJ _ (.inl rfl)) (aX rfl) (aX rfl) (aX rfl) (aX rfl) (aX rfl)⟩
def TC {s:Xs}{t:Ct}{S:List SV}{X:Xt}{v:SV}{e:Ek}{l:List Va}{b:Int}(h:gb s t S X pc ⟨16,a,b,vv⟩ v e st' l Y)(L:List Ek)(he:cN s.c t s.q ⟨16,a,b,vv⟩ (c9 v.st)=some L)(hel:e∈L):eA s t S ⟨16,a,b,vv⟩ e l Y:=by
 obtain rfl:=Option.some.inj he;obtain rfl:=List.mem_singleton.1 hel;obtain⟨w,z,rfl,hw,hz⟩:=jL h.l;exact⟨_,rfl,_,rfl,h.pshR rfl (jJ _ (.inr (.inl rfl))) (aX rfl) (aX rfl) (aX rfl) (aX rfl) (aX rfl)⟩
def TD {s:Xs}{t:Ct}{S:List SV}{X:Xt}{v:SV}{e:Ek}{l:List Va}{b:Int}(h:gb s t S X pc ⟨17,a,b,vv⟩ v e st' l Y)(L:List Ek)(he:cN s.c t s.q ⟨17,a,b,vv⟩ (c9 v.st)=some L)(hel:e∈L):eA s t S ⟨17,a,b,vv⟩ e l Y:=by
 obtain rfl:=Option.some.inj he;simp only[lω,List.not_mem_nil,or_false]at hel;rcases hel with rfl|rfl
 ·obtain⟨w,z,rfl,hw,hz⟩:=jL h.l;exact⟨_,rfl,_,rfl,h.pshR rfl (jJ _ (.inr (.inr (.inl rfl)))) (aX rfl) (aX rfl) (aX rfl) (aX rfl) (aX rfl)⟩
 ·obtain⟨w,z,rfl,hw,hz⟩:=jL h.l;exact⟨_,rfl,_,rfl,h.pshR rfl (jJ _ (.inr (.inr (.inl rfl)))) (aX rfl) (aX rfl) (aX rfl) (aX rfl) (aX rfl)⟩
def TE {s:Xs}{t:Ct}{S:List SV}{X:Xt}{v:SV}{e:Ek}{l:List Va}{b:Int}(h:gb s t S X pc ⟨18,a,b,vv⟩ v e st' l Y)(L:List Ek)(he:cN s.c t s.q ⟨18,a,b,vv⟩ (c9 v.st)=some L)(hel:e∈L):eA s t S ⟨18,a,b,vv⟩ e l Y:=by
 obtain rfl:=Option.some.inj he;simp only[lω,List.not_mem_nil,or_false]at hel;rcases hel with rfl|rfl
 ·obtain⟨w,z,rfl,hw,hz⟩:=jL h.l;exact⟨_,rfl,_,rfl,h.pshR rfl (jJ _ (.inr (.inr (.inr (.inl rfl))))) (aX rfl) (aX rfl) (aX rfl) (aX rfl) (aX rfl)⟩
 ·obtain⟨w,z,rfl,hw,hz⟩:=jL h.l;exact⟨_,rfl,_,rfl,h.pshR rfl (jJ _ (.inr (.inr (.inr (.inl rfl))))) (aX rfl) (aX rfl) (aX rfl) (aX rfl) (aX rfl)⟩
def TF {s:Xs}{t:Ct}{S:List SV}{X:Xt}{v:SV}{e:Ek}{l:List Va}{b:Int}(h:gb s t S X pc ⟨19,a,b,vv⟩ v e st' l Y)(L:List Ek)(he:cN s.c t s.q ⟨19,a,b,vv⟩ (c9 v.st)=some L)(hel:e∈L):eA s t S ⟨19,a,b,vv⟩ e l Y:=by
 obtain rfl:=Option.some.inj he;simp only[lω,List.not_mem_nil,or_false]at hel;rcases hel with rfl|rfl
 ·obtain⟨w,z,rfl,hw,hz⟩:=jL h.l;exact⟨_,rfl,_,rfl,h.pshR rfl (jJ _ (.inr (.inr (.inr (.inr (.inl rfl)))))) (aX rfl) (aX rfl) (aX rfl) (aX rfl) (aX rfl)⟩
 ·obtain⟨w,z,rfl,hw,hz⟩:=jL h.l;exact⟨_,rfl,_,rfl,h.pshR rfl (jJ _ (.inr (.inr (.inr (.inr (.inl rfl)))))) (aX rfl) (aX rfl) (aX rfl) (aX rfl) (aX rfl)⟩
def TG {s:Xs}{t:Ct}{S:List SV}{X:Xt}{v:SV}{e:Ek}{l:List Va}{b:Int}(h:gb s t S X pc ⟨20,a,b,vv⟩ v e st' l Y)(L:List Ek)(he:cN s.c t s.q ⟨20,a,b,vv⟩ (c9 v.st)=some L)(hel:e∈L):eA s t S ⟨20,a,b,vv⟩ e l Y:=by
 obtain rfl:=Option.some.inj he;simp only[lω,List.not_mem_nil,or_false]at hel;rcases hel with rfl|rfl
 ·obtain⟨w,z,rfl,hw,hz⟩:=jL h.l;exact⟨_,rfl,_,rfl,h.pshR rfl (jJ _ (.inr (.inr (.inr (.inr (.inr (rfl))))))) (aX rfl) (aX rfl) (aX rfl) (aX rfl) (aX rfl)⟩
 ·obtain⟨w,z,rfl,hw,hz⟩:=jL h.l;exact⟨_,rfl,_,rfl,h.pshR rfl (jJ _ (.inr (.inr (.inr (.inr (.inr (rfl))))))) (aX rfl) (aX rfl) (aX rfl) (aX rfl) (aX rfl)⟩
def TH {s:Xs}{t:Ct}{S:List SV}{X:Xt}{v:SV}{e:Ek}{l:List Va}{b:Int}(h:gb s t S X pc ⟨21,a,b,vv⟩ v e st' l Y)(L:List Ek)(he:cN s.c t s.q ⟨21,a,b,vv⟩ (c9 v.st)=some L)(hel:e∈L):eA s t S ⟨21,a,b,vv⟩ e l Y:=by
 obtain rfl:=Option.some.inj he;simp only[lω,List.not_mem_nil,or_false]at hel;rcases hel with rfl|rfl|rfl
 ·obtain⟨w,rfl,hw⟩:=uA h.l;obtain⟨r,hr,hg⟩:=FH hw;exact⟨_,rfl,eF r Y,by show(jh _ _).map _=_;rw[hr];rfl,h.pshR rfl hg (aX rfl) (aX rfl) (aX rfl) (aX rfl) (aX rfl)⟩
 ·obtain⟨w,rfl,hw⟩:=uA h.l;obtain⟨r,hr,hg⟩:=FH hw;exact⟨_,rfl,eF r Y,by show(jh _ _).map _=_;rw[hr];rfl,h.pshR rfl hg (aX rfl) (aX rfl) (aX rfl) (aX rfl) (aX rfl)⟩
 ·obtain⟨w,rfl,hw⟩:=uA h.l;obtain⟨r,hr,hg⟩:=FH hw;exact⟨_,rfl,eF r Y,by show(jh _ _).map _=_;rw[hr];rfl,h.pshR rfl hg (aX rfl) (aX rfl) (aX rfl) (aX rfl) (aX rfl)⟩
def TI {s:Xs}{t:Ct}{S:List SV}{X:Xt}{v:SV}{e:Ek}{l:List Va}{b:Int}(h:gb s t S X pc ⟨22,a,b,vv⟩ v e st' l Y)(L:List Ek)(he:cN s.c t s.q ⟨22,a,b,vv⟩ (c9 v.st)=some L)(hel:e∈L):eA s t S ⟨22,a,b,vv⟩ e l Y:=by
 obtain rfl:=Option.some.inj he;simp only[lω,List.not_mem_nil,or_false]at hel;rcases hel with rfl|rfl
 ·obtain⟨w,z,rfl,hw,hz⟩:=jL h.l;obtain⟨r,hr,hg⟩:=Wv hw hz;exact⟨_,rfl,eF r Y,by show(jh _ _).map _=_;rw[hr];rfl,h.pshR rfl hg (aX rfl) (aX rfl) (aX rfl) (aX rfl) (aX rfl)⟩
 ·obtain⟨w,z,rfl,hw,hz⟩:=jL h.l;obtain⟨r,hr,hg⟩:=Ww hw hz;exact⟨_,rfl,eF r Y,by show(jh _ _).map _=_;rw[hr];rfl,h.pshR rfl hg (aX rfl) (aX rfl) (aX rfl) (aX rfl) (aX rfl)⟩
def TJ {s:Xs}{t:Ct}{S:List SV}{X:Xt}{v:SV}{e:Ek}{l:List Va}{b:Int}(h:gb s t S X pc ⟨23,a,b,vv⟩ v e st' l Y)(L:List Ek)(he:cN s.c t s.q ⟨23,a,b,vv⟩ (c9 v.st)=some L)(hel:e∈L):eA s t S ⟨23,a,b,vv⟩ e l Y:=by
 obtain rfl:=Option.some.inj he;simp only[lω,List.not_mem_nil,or_false]at hel;rcases hel with rfl|rfl
 ·obtain⟨w,z,rfl,hw,hz⟩:=jL h.l;obtain⟨r,hr,hg⟩:=Sk hw hz;exact⟨_,rfl,eF r Y,by show(jh _ _).map _=_;rw[hr];rfl,h.pshR rfl hg (aX rfl) (aX rfl) (aX rfl) (aX rfl) (aX rfl)⟩
 ·obtain⟨w,z,rfl,hw,hz⟩:=jL h.l;obtain⟨r,hr,hg⟩:=Sl hw hz;exact⟨_,rfl,eF r Y,by show(jh _ _).map _=_;rw[hr];rfl,h.pshR rfl hg (aX rfl) (aX rfl) (aX rfl) (aX rfl) (aX rfl)⟩
def TK {s:Xs}{t:Ct}{S:List SV}{X:Xt}{v:SV}{e:Ek}{l:List Va}{b:Int}(h:gb s t S X pc ⟨24,a,b,vv⟩ v e st' l Y)(L:List Ek)(he:cN s.c t s.q ⟨24,a,b,vv⟩ (c9 v.st)=some L)(hel:e∈L):eA s t S ⟨24,a,b,vv⟩ e l Y:=by
 obtain rfl:=Option.some.inj he;simp only[lω,List.not_mem_nil,or_false]at hel;rcases hel with rfl|rfl
 ·obtain⟨w,z,q,rfl,hw,hz,hq⟩:=Xh h.l;obtain⟨r,hr,hg⟩:=Sm hw hz hq;exact⟨_,rfl,eF r Y,by show(jh _ _).map _=_;rw[hr];rfl,h.pshR rfl hg (aX rfl) (aX rfl) (aX rfl) (aX rfl) (aX rfl)⟩
 ·obtain⟨w,z,q,rfl,hw,hz,hq⟩:=Xh h.l;obtain⟨r,hr,hg⟩:=Sn hw hz hq;exact⟨_,rfl,eF r Y,by show(jh _ _).map _=_;rw[hr];rfl,h.pshR rfl hg (aX rfl) (aX rfl) (aX rfl) (aX rfl) (aX rfl)⟩
def TL {s:Xs}{t:Ct}{S:List SV}{X:Xt}{v:SV}{e:Ek}{l:List Va}{b:Int}(h:gb s t S X pc ⟨25,a,b,vv⟩ v e st' l Y)(L:List Ek)(he:cN s.c t s.q ⟨25,a,b,vv⟩ (c9 v.st)=some L)(hel:e∈L):eA s t S ⟨25,a,b,vv⟩ e l Y:=by
 obtain rfl:=Option.some.inj he;obtain rfl:=List.mem_singleton.1 hel
 ·obtain⟨w,rfl,hw⟩:=uA h.l;obtain⟨r,hr,hg⟩:=Wy hw;exact⟨_,rfl,eF r Y,by show(jh _ _).map _=_;rw[hr];rfl,h.pshR rfl hg (aX rfl) (aX rfl) (aX rfl) (aX rfl) (aX rfl)⟩
def TM {s:Xs}{t:Ct}{S:List SV}{X:Xt}{v:SV}{e:Ek}{l:List Va}{b:Int}(h:gb s t S X pc ⟨26,a,b,vv⟩ v e st' l Y)(L:List Ek)(he:cN s.c t s.q ⟨26,a,b,vv⟩ (c9 v.st)=some L)(hel:e∈L):eA s t S ⟨26,a,b,vv⟩ e l Y:=by
 obtain rfl:=Option.some.inj he;obtain rfl:=List.mem_singleton.1 hel;have hi:fD a 17=true:=jO h.hin;have hr:0<=a/\a<17:=EJ (n:=17) hi;have hl:=h.l.len;rw[mμ]at hl;have hl:l.length=a.toNat:=hl;obtain⟨r,hr2,hg⟩:=So (by omega) h.l.same;refine⟨fun l X=>(jh [105,110,116,115] l).map fun r=>eF r X,?_,eF r Y,by show(jh _ _).map _=_;rw[hr2];rfl,h.pshR rfl hg (aX rfl) (aX rfl) (aX rfl) (aX rfl) (aX rfl)⟩
 show Gb s _=some (((List.replicate a.toNat _).length:Int),_);rw[mμ,mσ hr.1];rfl
def TN {s:Xs}{t:Ct}{S:List SV}{X:Xt}{v:SV}{e:Ek}{l:List Va}{b:Int}(h:gb s t S X pc ⟨27,a,b,vv⟩ v e st' l Y)(L:List Ek)(he:cN s.c t s.q ⟨27,a,b,vv⟩ (c9 v.st)=some L)(hel:e∈L):eA s t S ⟨27,a,b,vv⟩ e l Y:=by
 obtain rfl:=Option.some.inj he;obtain rfl:=List.mem_singleton.1 hel;have hi:fD a 17=true:=jO h.hin;have hr:0<=a/\a<17:=EJ (n:=17) hi;have hl:=h.l.len;rw[mμ]at hl;have hl:l.length=a.toNat:=hl;obtain⟨r,hr2,hg⟩:=FI (by omega) h.l.same;refine⟨fun l X=>(jh [115,116,114,105,110,103,115] l).map fun r=>eF r X,?_,eF r Y,by show(jh _ _).map _=_;rw[hr2];rfl,h.pshR rfl hg (aX rfl) (aX rfl) (aX rfl) (aX rfl) (aX rfl)⟩
 show Gb s _=some (((List.replicate a.toNat _).length:Int),_);rw[mμ,mσ hr.1];rfl
end
end
end Go.Ab
